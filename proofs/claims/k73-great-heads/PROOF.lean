import PyProof.Rows.All
import Wide.All
import OpenK.AllK
import Wide.FinOn
import HandS.Lambda
import HandS.EndBits
import HandS.EndTab
import HandS.HeadWalk
import HandS.Head0
import HandS.Head1
import HandS.Head2
import HandS.HeadEnd
import HandS.ForMost
import HandS.Iter
import KE.GoesNew
import KE.GoesMore
import KE.KStateDown
import HandS.Exc
import HandS.Codes
import HandS.Defaults
import HandS.Star
import HandS.HeadHook4
import KE.KDictKeyed
import KE.KeyNested
import HandS.ExcInit
import HandS.ExcField
import HandS.ForSpec
import KE.KExcSuper
import KE.KSuper
import HandS.HeadHook1
import HandS.HeadHook2
import HandS.HeadHook3
import HandS.SortKw
import HandS.More
import KE.SortKeyHeap
import KE.SortLaws
import HandS.Replace
import HandS.IsInst
import HandS.ExcValue
import HandS.Style
import KE.KRevSl
import PyProof.StrBlock2
import HandS.TryOnly
import PySem.Challenge.RW_whereversent_k73_great_heads_put_togethe
set_option Elab.async false
section
set_option maxRecDepth 100000
set_option maxHeartbeats 4000000
/-! enumerate(text), zip(text, text) in a loop or a comprehension. -/
namespace L2
open PySem PySem.Spec PyProof.Rows
/-- n turns, at turn i a new tuple of f i -/
def Itf (n : Nat) (f : Nat → List V) : It := ⟨fun i _ => i < n, fun i H v H' => ∃ T, v = .ref T ∧ H T = none ∧ H' = upd H T (.tup (f i)), fun i _ => i = n⟩
theorem turn_goes {P : Program} {w : World} {K : PySem.W.Frag} {tg : Expr} {I : Addr} {fp wr : List Addr} {n : Nat} {Y : Nat → Heap → Value → Heap → Prop} {St : Nat → Heap → Prop} {f : Nat → List V} (hm : I ∈ fp)
    (W : ∀ A : Around, A.handled = none → GoesN P w A tg I fp wr n Y St) (hY : ∀ i h0 v h, i < n → Y i h0 v h → ∃ (T : Addr) (us : List Value), v = .ref T ∧ h0.objs.size ≤ T ∧ Vals (f i) us ∧ h.IsTuple T us.toArray) (hl : ∀ i, (f i).length ≤ sizeLine)
    (obj : ∀ i h, St i h → ∀ b ∈ fp, ∃ o, h.get? b = some o ∧ ∀ v, o.data ≠ .cell v)
    (self : ∀ (A : Around) (i : Nat) (s : Shared) (Q : Value → Shared → Prop) (E : Value → Shared → Prop), St i s.heap → Q (.ref I) s → wpAny (model P w) A (pyIter (.ref I)) Q E s) : Turn P w K tg (Itf n f) fp I St where
  mem := hm
  obj := obj
  keep := fun i h h' st k => (W { handled := none, depth := 0, frames := none, guards := none, units := 0 } rfl).frame i h h' st k
  item := by
    intro X hP hw hK hc i pins s σ H E J hf st hg
    subst hP hw hK
    refine (W X.A (J.ok.hd hc)).goes i s _ E hg st fun v h' tk hy st' kk _ => ?_
    obtain ⟨T, us, rfl, hT, rv, hI⟩ := hY i _ _ _ hg hy
    have new : ObjOk X.prog X.w (upd H T (.tup (f i))) h' T (.tup (f i)) := ⟨hl i, us, rv, hI⟩
    have I1 : Inv X pins σ (upd H T (.tup (f i))) { s with heap := h', toks := tk } :=
      J.turnedNew (ch := fp) (fun b o hb q => kk b o (fun z => hb ((W X.A (J.ok.hd hc)).sub b z)) q) hf hT new
    refine ⟨.ref T, _, I1, rfl, ⟨T, rfl, J.hok.fresh hT, rfl⟩, st', fun b hb => ?_⟩
    obtain ⟨o, ho, _⟩ := obj i _ st b hb
    rw [upd_ne (Nat.ne_of_lt (Nat.lt_of_lt_of_le (Heap.lt_size ho) hT))]
    exact (hf b hb).1
  done := by
    intro X hP hw hK hc i pins s σ H E J hf st hg
    subst hP hw hK
    have hg : i = n := hg
    subst hg
    exact (W X.A (J.ok.hd hc)).stops s _ E st fun h' tk kk _ => J.turnedL (t' := tk) (ch := fp) (fun b o hb q => kk b o (fun z => hb ((W X.A (J.ok.hd hc)).sub b z)) q) hf
  self := self
/-! ### enumerate(text) -/
theorem meets_enumS {v : Value} {o : Obj} {H : Heap → Prop} (B : Begins v o H) :
    Meets (Builtin.«enumerate.__new__» ⟨[.type "enumerate", v], []⟩) (fun _ R s => H s.heap ∧
      R (.ok (.ret (.ref (s.heap.push o).objs.size))) { s with heap := (s.heap.push o).push { cls := .type "enumerate", data := .fields #[.none, .bool false, .ref s.heap.objs.size, rawInt 0, .none, .none] } }) :=
  .of_wp fun prog w A R s h => by
    obtain ⟨hp, g, d, tk, os⟩ := s; obtain ⟨h1, h⟩ := h
    have hsub := sub_enumerate
    have q1 : ∀ {A' : Around} {E : Value → Shared → Prop} {Q : Value → Shared → Prop}, Q (.ref hp.objs.size) ⟨hp.push o, g, d, tk, os⟩ → wpAny (model prog w) A' (pyIter v) Q E ⟨hp, g, d, tk, os⟩ :=
      fun q => B.iter prog w _ _ ⟨hp, g, d, tk, os⟩ _ h1 q
    wp_walk using q1
    refine wpAny_stack_any fun st => wpAny_pure ?_
    split
    · rename_i c _ _ _ _ _
      cases (c == Value.type "enumerate")
      · wp_walk using q1
        exact ⟨_, rfl, h⟩
      · wp_walk using q1
        exact ⟨_, rfl, h⟩
    · wp_walk using q1
      exact ⟨_, rfl, h⟩
theorem enumS_begins {prog : Program} {w : World} {A : Around} {E : Value → Shared → Prop} {s : Shared} {v : Value} {o : Obj} {H : Heap → Prop} {Q : Value → Shared → Prop} (B : Begins v o H) (h1 : H s.heap)
    (h : ∀ h', IsEnum h' (s.heap.objs.size + 1) s.heap.objs.size 0 .none → h'.get? s.heap.objs.size = some o → h'.objs.size = s.heap.objs.size + 2 →
      (∀ b o, s.heap.get? b = some o → h'.get? b = some o) → Q (.ref (s.heap.objs.size + 1)) { s with heap := h' }) :
    wpAny (model prog w) A (call (.type "enumerate") [v]) Q E s := by
  refine callType_new F.called_enumerate (by decide) (F.typeCall_enumerate_1 _) (F.newCall_enumerate_1 _) (fun obj => F.args_object_init_2 obj _) F.entry_enumerate_new (meets_enumS B) ⟨h1, ?_⟩
  have hz : (s.heap.push o).objs.size = s.heap.objs.size + 1 := Heap.size_push ..
  show _ ∧ _
  rw [hz]
  have he : IsEnum ((s.heap.push o).push { cls := .type "enumerate", data := .fields #[.none, .bool false, .ref s.heap.objs.size, rawInt 0, .none, .none] }) (s.heap.objs.size + 1) s.heap.objs.size 0 .none := by
    have := Heap.get?_push_size (s.heap.push o) (o := { cls := .type "enumerate", data := .fields #[.none, .bool false, .ref s.heap.objs.size, rawInt 0, .none, .none] }) rfl
    rw [hz] at this; exact this
  refine ⟨⟨_, he, rfl⟩, h _ he (Heap.get?_push_of_some _ (Heap.get?_push_size _ B.free)) (by rw [Heap.size_push, hz]) fun b o x => Heap.get?_push_of_some _ (Heap.get?_push_of_some _ x)⟩
/-- the pairs of enumerate(z) -/
def enumF (z : Str) (i : Nat) : List V := [.int (i : Int), .str ⟨#[z.cps.getD i 0]⟩]
/-- the pairs of zip(y, z) -/
def zipF (y z : Str) (i : Nat) : List V := [.str ⟨#[y.cps.getD i 0]⟩, .str ⟨#[z.cps.getD i 0]⟩]
def iEnumS (ta : TA) : TI := fun σ H R => ta σ H fun vs H1 => ∃ z, vs = [.str z] ∧ R (Itf z.cps.size (enumF z)) H1
def iZipS (ta : TA) : TI := fun σ H R => ta σ H fun vs H1 => ∃ y z, vs = [.str y, .str z] ∧ R (Itf (min y.cps.size z.cps.size) (zipF y z)) H1
theorem getD_of {a : Array Nat} {i c : Nat} (h : a[i]? = some c) : a.getD i 0 = c := by
  rw [Array.getD_eq_getD_getElem?, h]; rfl
theorem pi_enumS {X : Cx} {e : Expr} {ta : TA} {p pos tpos : Pos} {elts : List Expr} {kk : Nat} (hg : Gl X "enumerate") (hm : X.mg "enumerate" = none) (ha : PA X [e] ta) (hs : starEach [e] X.env = [(false, eval e X.env)] := by rfl) :
    PI X (.Tuple elts kk tpos) (.Call (.Name "enumerate" p) [e] [] pos) (iEnumS ta) := by
  refine ⟨fun pins s σ H R I h => ?_⟩
  refine Call_ (ld_blt I hg hm boot_enumerate (PyProof.Rows.callWith_type1 (thn (ha.run pos pins s σ H _ I h) fun us s1 ⟨vs, H1, I1, r1, q1⟩ => ?_) hs rfl))
  obtain ⟨z, ex, q⟩ := q1
  subst ex
  cases r1 with
  | cons r rr =>
    cases rr
    obtain ⟨t, rfl⟩ := r
    refine enumS_begins (begins_text z t) True.intro fun h' he hit hsz hk => wpAny_pyIter_enum he ?_
    have I2 : Inv X pins σ H1 { s1 with heap := h' } := I1.kept (t' := s1.toks) hk
    refine ⟨s1.heap.objs.size + 1, [s1.heap.objs.size + 1, s1.heap.objs.size], fun i h => (∃ old, IsEnum h (s1.heap.objs.size + 1) s1.heap.objs.size (0 + (i : Int)) old) ∧ h.IsStrIter s1.heap.objs.size (strIterType z) z t i, _, H1, rfl, I2,
      turn_goes (wr := [s1.heap.objs.size + 1, s1.heap.objs.size]) (by simp) (fun A hh => GoesN.enumFrom 0 (Draws.text (A := A.in1) hh s1.heap.objs.size z t) (s1.heap.objs.size + 1) (Nat.succ_ne_self _) (by simp) (by simp)) (fun i h0 v h hi hy => ?_) (fun i => by show 2 ≤ sizeLine; decide) (fun i h st b hb => ?_)
        (fun A i s Q E st h => let ⟨⟨_, he⟩, _⟩ := st; wpAny_pyIter_enum he h), ⟨⟨.none, he⟩, _, hit, rfl, rfl⟩, fun b hb => ?_, q⟩
    · obtain ⟨T, t', x, rfl, hT, ⟨c, u, hc, rfl⟩, hI⟩ := hy
      refine ⟨T, _, rfl, hT, .cons ⟨t', rfl⟩ (.cons (by rw [getD_of hc]; exact ⟨u, rfl⟩) .nil), ?_⟩
      rw [Int.zero_add] at hI
      exact hI
    · obtain ⟨⟨old, he⟩, ⟨o, ho, hc, hd⟩⟩ := st
      have e' : b = s1.heap.objs.size + 1 ∨ b = s1.heap.objs.size := by simpa using hb
      rcases e' with z | z
      · rw [z]; exact ⟨_, he, fun v q => nomatch q⟩
      · rw [z]; exact ⟨o, ho, fun v q => by rw [hd] at q; cases q⟩
    · have e' : b = s1.heap.objs.size + 1 ∨ b = s1.heap.objs.size := by simpa using hb
      have hle : s1.heap.objs.size ≤ b := by
        rcases e' with z | z
        · rw [z]; exact Nat.le_succ _
        · rw [z]; exact Nat.le_refl _
      exact I1.fpOk hle (I1.hok.fresh hle)
theorem pi_zipS {X : Cx} {e e2 : Expr} {ta : TA} {p pos tpos : Pos} {elts : List Expr} {kk : Nat} (hg : Gl X "zip") (hm : X.mg "zip" = none) (ha : PA X [e, e2] ta)
    (hs : starEach [e, e2] X.env = (false, eval e X.env) :: starEach [e2] X.env := by rfl) (hpl : (backTo pos (starEach [e2] X.env)).any (·.1) = false := by rfl) :
    PI X (.Tuple elts kk tpos) (.Call (.Name "zip" p) [e, e2] [] pos) (iZipS ta) := by
  refine ⟨fun pins s σ H R I h => ?_⟩
  refine Call_ (ld_blt I hg hm PyProof.Rows.boot_zip (PyProof.Rows.callWith_type1 (thn (ha.run pos pins s σ H _ I h) fun us s1 ⟨vs, H1, I1, r1, q1⟩ => ?_) hs hpl))
  obtain ⟨y, z, ex, q⟩ := q1
  subst ex
  cases r1 with
  | cons r rr =>
    cases rr with
    | cons r' rr =>
      cases rr
      obtain ⟨t, rfl⟩ := r
      obtain ⟨t', rfl⟩ := r'
      refine zip_begins2 (begins_text y t) (begins_text z t') True.intro True.intro fun h' hz hTI hTO h1 h2 hsz hk => wpAny_pyIter_zip hz ?_
      have I2 : Inv X pins σ H1 { s1 with heap := h' } := I1.kept (t' := s1.toks) hk
      have mem5 : ∀ b, b ∈ ((s1.heap.objs.size + 4) :: (s1.heap.objs.size + 2) :: (s1.heap.objs.size + 3) :: ([s1.heap.objs.size] ++ [s1.heap.objs.size + 1]) : List Addr) → b = s1.heap.objs.size + 4 ∨ b = s1.heap.objs.size + 2 ∨ b = s1.heap.objs.size + 3 ∨ b = s1.heap.objs.size ∨ b = s1.heap.objs.size + 1 := fun b hb => by simpa using hb
      refine ⟨s1.heap.objs.size + 4, (s1.heap.objs.size + 4) :: (s1.heap.objs.size + 2) :: (s1.heap.objs.size + 3) :: ([s1.heap.objs.size] ++ [s1.heap.objs.size + 1]),
        fun i h => IsZip h (s1.heap.objs.size + 4) (s1.heap.objs.size + 2) (s1.heap.objs.size + 3) .none ∧ IsTupOf2 h (s1.heap.objs.size + 2) (.ref s1.heap.objs.size) (.ref (s1.heap.objs.size + 1)) ∧ (∃ a1 a2, IsTupOf2 h (s1.heap.objs.size + 3) a1 a2) ∧ h.IsStrIter s1.heap.objs.size (strIterType y) y t i ∧ h.IsStrIter (s1.heap.objs.size + 1) (strIterType z) z t' i, _, H1, rfl, I2,
        turn_goes (wr := [s1.heap.objs.size + 4, s1.heap.objs.size + 3, s1.heap.objs.size, s1.heap.objs.size + 1]) (by simp) (fun A hh => GoesN.zip2 (zip_sep2 (by simp) (by simp)) (Draws.text (A := A.in1) hh s1.heap.objs.size y t) (Draws.text (A := A.in1) hh (s1.heap.objs.size + 1) z t'))
          (fun i h0 v h hi hy => ?_) (fun i => by show 2 ≤ sizeLine; decide) (fun i h st b hb => ?_) (fun A i s Q E st h => wpAny_pyIter_zip st.1 h), ⟨hz, hTI, ⟨_, _, hTO⟩, ⟨_, h1, rfl, rfl⟩, ⟨_, h2, rfl, rfl⟩⟩, fun b hb => ?_, q⟩
      · obtain ⟨T, x1, x2, rfl, hT, ⟨c, u, hc, rfl⟩, ⟨c', u', hc', rfl⟩, hI⟩ := hy
        exact ⟨T, _, rfl, hT, .cons (by rw [getD_of hc]; exact ⟨u, rfl⟩) (.cons (by rw [getD_of hc']; exact ⟨u', rfl⟩) .nil), hI⟩
      · obtain ⟨hz, hTI, ⟨a1, a2, hTO⟩, ⟨o, ho, hc, hd⟩, ⟨o', ho', hc', hd'⟩⟩ := st
        rcases mem5 b hb with z | z | z | z | z
        · rw [z]; exact ⟨_, hz, fun v q => nomatch q⟩
        · rw [z]; exact ⟨_, hTI, fun v q => nomatch q⟩
        · rw [z]; exact ⟨_, hTO, fun v q => nomatch q⟩
        · rw [z]; exact ⟨o, ho, fun v q => by rw [hd] at q; cases q⟩
        · rw [z]; exact ⟨o', ho', fun v q => by rw [hd'] at q; cases q⟩
      · have hle : s1.heap.objs.size ≤ b := by
          rcases mem5 b hb with z | z | z | z | z <;> rw [z]
          · exact Nat.le_add_right _ _
          · exact Nat.le_add_right _ _
          · exact Nat.le_add_right _ _
          · exact Nat.le_refl _
          · exact Nat.le_add_right _ _
        exact I1.fpOk hle (I1.hok.fresh hle)
/-- a loop over such turns -/
theorem for_itf {n : Nat} {f : Nat → List V} {g : TG} {tb : TS} {D : Ends} {σ : St} {H : Hp} (Pv : Nat → St → Hp → Prop) (h0 : Pv 0 σ H)
    (hs : ∀ i σ H T, i < n → Pv i σ H → H T = none → g (.ref T) σ (upd H T (.tup (f i))) fun σ2 H2 => tb { D with nx := Pv (i + 1), ct := Pv (i + 1), bk := D.nx } σ2 H2) (hd : ∀ σ H, Pv n σ H → D.nx σ H) :
    ∃ W : Nat → Nat → St → Hp → Prop, (∃ m, W 0 m σ H) ∧ ∀ i m σ H, W i m σ H →
      ((Itf n f).stop i H ∧ D.nx σ H) ∨ ((Itf n f).go i H ∧ ∃ N : St → Hp → Prop, (∀ σ' H', N σ' H' → ∃ m', m' < m ∧ W (i + 1) m' σ' H') ∧ ∀ x H', (Itf n f).yld i H x H' → g x σ H' fun σ2 H2 => tb { D with nx := N, ct := N, bk := D.nx } σ2 H2) := by
  refine ⟨fun i m σ H => m = n - i ∧ i ≤ n ∧ Pv i σ H, ⟨n, by simp, Nat.zero_le _, h0⟩, ?_⟩
  rintro i m σ H ⟨rfl, hi, p⟩
  rcases Nat.lt_or_ge i n with h | h
  · refine .inr ⟨h, fun σ' H' => Pv (i + 1) σ' H', fun σ' H' q => ⟨n - (i + 1), by omega, rfl, h, q⟩, fun x H' y => ?_⟩
    obtain ⟨T, rfl, hT, rfl⟩ := y
    exact hs i σ H T h p hT
  · have e : i = n := Nat.le_antisymm hi h
    subst e
    exact .inl ⟨rfl, hd σ H p⟩
end L2

end
section
set_option maxRecDepth 100000
set_option maxHeartbeats 2000000
/-! Dicts whose keys are nested tuples, over the layer: d[k], d[k] = v, in, not in. The dict's own object is tracked as an open thing, its keys' tuples are tracked beside it. -/
namespace L2
open PySem PySem.Spec PyProof.Rows
/-! ### a key as tracked values -/
mutual
def KeyH (H : Hp) : NestedKey → V → Prop
  | .none, v => v = .non
  | .num i, v => v = .int i
  | .text x, v => v = .str x
  | .tup ks, v => ∃ a vs, v = .ref a ∧ H a = some (.tup vs) ∧ KeysH H ks vs
def KeysH (H : Hp) : List NestedKey → List V → Prop
  | [], vs => vs = []
  | k :: ks, vs => ∃ v r, vs = v :: r ∧ KeyH H k v ∧ KeysH H ks r
end
mutual
theorem KeyH.mono {H H' : Hp} (ht : ∀ b xs, H b = some (.tup xs) → H' b = some (.tup xs)) : ∀ (k : NestedKey) (v : V), KeyH H k v → KeyH H' k v
  | .none, _, h => h
  | .num _, _, h => h
  | .text _, _, h => h
  | .tup ks, v, h => by
    obtain ⟨a, vs, e, e2, h⟩ := h
    exact ⟨a, vs, e, ht _ _ e2, KeysH.mono ht ks vs h⟩
theorem KeysH.mono {H H' : Hp} (ht : ∀ b xs, H b = some (.tup xs) → H' b = some (.tup xs)) : ∀ (ks : List NestedKey) (vs : List V), KeysH H ks vs → KeysH H' ks vs
  | [], _, h => h
  | k :: ks, vs, h => by
    obtain ⟨v, r, e, h1, h2⟩ := h
    exact ⟨v, r, e, KeyH.mono ht k v h1, KeysH.mono ht ks r h2⟩
end
section
variable {P : Program} {w : World} {H : Hp} {h : Heap}
mutual
theorem KeyH.is (ok : HOk P w H h) : ∀ (k : NestedKey) (v : V) (u : Value), KeyH H k v → RelV v u → NestedIs h k u
  | .none, v, u, q, r => by
    subst q
    cases (show u = Value.none from r)
    exact .none
  | .num i, v, u, q, r => by
    subst q
    obtain ⟨t, e⟩ := (show ∃ t, u = Value.int i t from r)
    subst e
    exact .int i t
  | .text x, v, u, q, r => by
    subst q
    obtain ⟨t, e⟩ := (show ∃ t, u = Value.str x t from r)
    subst e
    exact .text x t
  | .tup ks, v, u, q, r => by
    obtain ⟨a, vs, e, e2, q⟩ := q
    subst e
    cases (show u = Value.ref a from r)
    obtain ⟨_, its, rv, o, h1, h2, n, h3⟩ := (show ObjOk P w H h a (.tup vs) from ok a _ e2)
    exact .tup h1 h2 h3 (by simpa using KeysH.all ok ks vs its q rv)
theorem KeysH.all (ok : HOk P w H h) : ∀ (ks : List NestedKey) (vs : List V) (us : List Value), KeysH H ks vs → Vals vs us → NestedAll h ks us
  | [], vs, us, q, r => by
    subst q
    cases r
    exact .nil
  | k :: ks, vs, us, q, r => by
    obtain ⟨v, rs, e, h1, h2⟩ := q
    subst e
    cases r with
    | cons r1 r2 => exact .cons (KeyH.is ok k v _ h1 r1) (KeysH.all ok ks rs _ h2 r2)
end
end
/-! ### the dict -/
/-- the dict's own object: its entries, key by key -/
def NDo (P : Program) (w : World) (d : Addr) (xs : List (NestedKey × Addr × Value)) : HO := .ext fun h => ∃ o es ep, h.get? d = some o ∧ o.ExactDict ∧ o.data = .dict es ep ∧ es.toList = xs.map (entryOfKey (nestedKind P w))
theorem NDo_ok {P : Program} {w : World} {H : Hp} {h : Heap} {d : Addr} {xs : List (NestedKey × Addr × Value)} (q : ∃ o es ep, h.get? d = some o ∧ o.ExactDict ∧ o.data = .dict es ep ∧ es.toList = xs.map (entryOfKey (nestedKind P w))) : ObjOk P w H h d (NDo P w d xs) := by
  obtain ⟨o, es, ep, h1, h2, h3, h4⟩ := q
  exact ⟨⟨o, es, ep, h1, h2, h3, h4⟩, ⟨o, h1⟩, fun g g' ⟨o, es, ep, h1, h2, h3, h4⟩ st => ⟨o, es, ep, st _ h1, h2, h3, h4⟩⟩
abbrev KN (H : Hp) : List (NestedKey × V) → List (NestedKey × Addr × Value) → Prop := Paired fun p q => p.1 = q.1 ∧ (KeyH H p.1 (.ref q.2.1) ∧ p.1.depth ≤ 8) ∧ RelV p.2 q.2.2
/-- at d stands a dict with the keys and values kvs -/
structure NDict (P : Program) (w : World) (H : Hp) (d : Addr) (kvs : List (NestedKey × V)) : Prop where
  ex : ∃ xs, H d = some (NDo P w d xs) ∧ KN H kvs xs ∧ (xs.map (·.1)).Nodup
  ns : (d == sysModules) = false
  len : kvs.length ≤ sizeLine
section
variable {H H' : Hp} {kvs : List (NestedKey × V)} {xs : List (NestedKey × Addr × Value)}
theorem KN.val (r : KN H kvs xs) (k : NestedKey) : RelO (valV kvs k) ((atKey xs k).map (·.2)) := by
  induction r with
  | nil => exact True.intro
  | @cons p q ps qs h t ih =>
    obtain ⟨h1, _, h2⟩ := h
    by_cases e : p.1 = k
    · have e' : q.1 = k := h1.symm.trans e
      have b : atKey (q :: qs) k = some q.2 := by simp [atKey, List.find?_cons, e']
      rw [valV_pos e, b]; exact h2
    · have e' : ¬ q.1 = k := fun z => e (h1.trans z)
      have b : atKey (q :: qs) k = atKey qs k := by simp [atKey, List.find?_cons, e']
      rw [valV_neg e, b]; exact ih
theorem KN.repl (r : KN H kvs xs) (k : NestedKey) {y : V} {u : Value} (ry : RelV y u) :
    KN H (kvs.map fun kv => if kv.1 = k then (kv.1, y) else kv) (xs.map (putAt k u)) := by
  induction r with
  | nil => exact .nil
  | @cons p q ps qs h t ih =>
    rw [List.map_cons, List.map_cons]
    refine .cons ?_ ih
    obtain ⟨h1, h2, h3⟩ := h
    unfold putAt
    by_cases e : p.1 = k
    · rw [if_pos e, if_pos (h1.symm.trans e)]; exact ⟨h1, h2, ry⟩
    · rw [if_neg e, if_neg (fun z => e (h1.trans z))]; exact ⟨h1, h2, h3⟩
theorem KN.put (r : KN H kvs xs) (k : NestedKey) {b : Addr} {y : V} {u : Value} (hb : KeyH H k (.ref b)) (hd : k.depth ≤ 8) (ry : RelV y u) :
    KN H (putK kvs k y) (storedH xs k b u) := by
  have e : (kvs.any fun kv => decide (kv.1 = k)) = (atKey xs k).isSome := by
    rw [valV_any, (r.val k).isSome_eq, Option.isSome_map]
  unfold putK storedH
  rw [e]
  by_cases q : (atKey xs k).isSome = true
  · rw [if_pos q, if_pos q]; exact r.repl k ry
  · rw [if_neg q, if_neg q]; exact Paired.snoc r ⟨rfl, ⟨hb, hd⟩, ry⟩
theorem KN.keeps (r : KN H kvs xs) (ht : ∀ b ys, H b = some (.tup ys) → H' b = some (.tup ys)) : KN H' kvs xs :=
  Paired.mapP r fun _ _ z => ⟨z.1, ⟨KeyH.mono ht _ _ z.2.1.1, z.2.1.2⟩, z.2.2⟩
end
section
variable {P : Program} {w : World} {H H' : Hp} {h : Heap} {d : Addr} {kvs : List (NestedKey × V)}
theorem NDict.stay (n : NDict P w H d kvs) (hd : ∀ o, H d = some o → H' d = some o) (ht : ∀ b ys, H b = some (.tup ys) → H' b = some (.tup ys)) : NDict P w H' d kvs := by
  obtain ⟨⟨xs, e, r, nd⟩, ns, len⟩ := n
  exact ⟨⟨xs, hd _ e, r.keeps ht, nd⟩, ns, len⟩
theorem NDict.at (n : NDict P w H d kvs) : ∃ xs, H d = some (NDo P w d xs) := let ⟨⟨xs, e, _⟩, _, _⟩ := n; ⟨xs, e⟩
theorem NDict.of (ok : HOk P w H h) (n : NDict P w H d kvs) : ∃ xs, H d = some (NDo P w d xs) ∧ KN H kvs xs ∧ h.DictOfH (nestedKind P w) d xs := by
  obtain ⟨⟨xs, e, r, nd⟩, ns, len⟩ := n
  obtain ⟨⟨o, es, ep, h1, h2, h3, h4⟩, _, _⟩ := ok d _ e
  refine ⟨xs, e, r, o, es, ep, h1, h2, h3, h4, ?_, nd⟩
  have all : ∀ {l : List (NestedKey × V)} {m : List (NestedKey × Addr × Value)}, KN H l m → ∀ x ∈ m, (nestedKind P w).is h x.1 x.2.1 := by
    intro l m q
    induction q with
    | nil => intro x hx; exact nomatch hx
    | @cons p q ps qs hq t ih =>
      intro x hx
      rcases List.mem_cons.mp hx with e | hx
      · subst e
        obtain ⟨e1, ⟨e2, e3⟩, _⟩ := hq
        rw [← e1]
        exact ⟨KeyH.is ok _ _ _ e2 rfl, e3⟩
      · exact ih x hx
  exact all r
end
section
variable {X : Cx} {pins : List (Addr × Obj)} {σ : St} {H : Hp} {s : Shared} {d b : Addr} {v : V} {k : NestedKey} {r : Value} {kvs : List (NestedKey × V)} {A : Around} {E : Value → Shared → Prop}
theorem nest_room {A : Around} (hu : A.units + 9 < cLine) : (nestedKind X.prog X.w).room A.in1 := by
  show A.units + 1 + 8 < cLine
  omega
theorem n_getItem {Q : Value → Shared → Prop} (hu : A.units + 9 < cLine) (I : Inv X pins σ H s) (n : NDict X.prog X.w H d kvs) (hk : KeyH H k (.ref b)) (h8 : k.depth ≤ 8) (g : valV kvs k = some v) (h : ∀ w' s', Inv X pins σ H s' → RelV v w' → Q w' s') :
    wpAny (model X.prog X.w) A (getItem (.ref d) (.ref b)) Q E s := by
  obtain ⟨xs, e, rel, dd⟩ := n.of I.hok
  obtain ⟨w', hw, rw'⟩ := RelO.some_of (v := v) (o := (atKey xs k).map (·.2)) (by rw [← g]; exact rel.val k)
  obtain ⟨p, hp, hp2⟩ := Option.map_eq_some_iff.mp hw
  refine wpAny_getItem_heap (nest_room hu) ⟨KeyH.is I.hok _ _ _ hk rfl, h8⟩ dd hp ?_
  rw [hp2]
  exact h w' _ (I.tok _) rw'
theorem n_in {Q : Value → Shared → Prop} (hu : A.units + 9 < cLine) (I : Inv X pins σ H s) (n : NDict X.prog X.w H d kvs) (hk : KeyH H k (.ref b)) (h8 : k.depth ≤ 8) (h : ∀ s', Inv X pins σ H s' → Q (.bool (valV kvs k).isSome) s') :
    wpAny (model X.prog X.w) A (compareOp .In (.ref b) (.ref d)) Q E s := by
  have ns := n.ns
  obtain ⟨xs, e, rel, dd⟩ := n.of I.hok
  refine wpAny_in_heap (nest_room hu) ⟨KeyH.is I.hok _ _ _ hk rfl, h8⟩ ns dd ?_
  have q := (rel.val k).isSome_eq
  rw [Option.isSome_map] at q
  rw [← q]
  exact h _ (I.tok _)
theorem n_notIn {Q : Value → Shared → Prop} (hu : A.units + 9 < cLine) (I : Inv X pins σ H s) (n : NDict X.prog X.w H d kvs) (hk : KeyH H k (.ref b)) (h8 : k.depth ≤ 8) (h : ∀ s', Inv X pins σ H s' → Q (.bool (!(valV kvs k).isSome)) s') :
    wpAny (model X.prog X.w) A (compareOp .NotIn (.ref b) (.ref d)) Q E s := by
  have ns := n.ns
  obtain ⟨xs, e, rel, dd⟩ := n.of I.hok
  refine wpAny_notIn_heap (nest_room hu) ⟨KeyH.is I.hok _ _ _ hk rfl, h8⟩ ns dd ?_
  have q := (rel.val k).isSome_eq
  rw [Option.isSome_map] at q
  rw [← q]
  exact h _ (I.tok _)
/-- d[k] = v: a new object at d, all else as it was -/
theorem n_setItem {Q : Unit → Shared → Prop} (hu : A.units + 9 < cLine) (I : Inv X pins σ H s) (n : NDict X.prog X.w H d kvs) (hk : KeyH H k (.ref b)) (h8 : k.depth ≤ 8) (hl : kvs.length < sizeLine) (rv : RelV v r)
    (h : ∀ o s', NDict X.prog X.w (upd H d o) d (putK kvs k v) → (∀ ps, o ≠ .tbl ps) → Inv X pins σ (upd H d o) s' → Q () s') : wpAny (model X.prog X.w) A (setItem (.ref d) (.ref b) r) Q E s := by
  have ns := n.ns
  have hkv := n.len
  obtain ⟨⟨xs', e', rel', nd'⟩, _, _⟩ := id n
  obtain ⟨xs, e, rel, dd⟩ := n.of I.hok
  have hz : xs.length ≤ sizeLine := by rw [← Paired.length rel]; exact hkv
  refine wpAny_setItem_heap (hsz := hz) (nest_room hu) ⟨KeyH.is I.hok _ _ _ hk rfl, h8⟩ dd fun h' dd' hs => ?_
  obtain ⟨q, es, ep, hq, h2, h3, h4, h6, h5⟩ := dd'
  have ht : ∀ c ys, H c = some (.tup ys) → (upd H d (NDo X.prog X.w d (storedH xs k b r))) c = some (.tup ys) := fun c ys ec => by
    rw [upd_ne (ne_of ec e (fun z => nomatch z))]
    exact ec
  refine h (NDo X.prog X.w d (storedH xs k b r)) _ ⟨⟨_, upd_same, (rel.put k hk h8 rv).keeps ht, h5⟩, ns, by have := length_putK kvs k v; omega⟩ (fun ps z => by cases z) ?_
  exact d_write I (by rw [e]; exact True.intro) hs ⟨q, hq⟩ (NDo_ok ⟨q, es, ep, hq, h2, h3, h4⟩)
theorem n_typeIs (I : Inv X pins σ H s) (n : NDict X.prog X.w H d kvs) : s.TypeIs (.ref d) "dict" := by
  obtain ⟨xs, e, rel, dd⟩ := n.of I.hok
  exact dd.typeIs
end
/-! ### readings and rules -/
def tNGet (P : Program) (w : World) (td ty : TE) : TE := fun σ H Q => td σ H fun x H1 => ty σ H1 fun y H2 => ∃ d b kvs k v, x = .ref d ∧ y = .ref b ∧ NDict P w H2 d kvs ∧ KeyH H2 k (.ref b) ∧ k.depth ≤ 8 ∧ valV kvs k = some v ∧ Q v H2
def tNIn (P : Program) (w : World) (ty td : TE) : TE := fun σ H Q => ty σ H fun y H1 => td σ H1 fun x H2 => ∃ d b kvs k, x = .ref d ∧ y = .ref b ∧ NDict P w H2 d kvs ∧ KeyH H2 k (.ref b) ∧ k.depth ≤ 8 ∧ Q (.bl (valV kvs k).isSome) H2
def tNNotIn (P : Program) (w : World) (ty td : TE) : TE := fun σ H Q => ty σ H fun y H1 => td σ H1 fun x H2 => ∃ d b kvs k, x = .ref d ∧ y = .ref b ∧ NDict P w H2 d kvs ∧ KeyH H2 k (.ref b) ∧ k.depth ≤ 8 ∧ Q (.bl (!(valV kvs k).isSome)) H2
def sNPut (P : Program) (w : World) (td ty tv : TE) : TS := fun D σ H => tv σ H fun v H1 => td σ H1 fun x H2 => ty σ H2 fun y H3 => ∃ d b kvs k, x = .ref d ∧ y = .ref b ∧ NDict P w H3 d kvs ∧ KeyH H3 k (.ref b) ∧ k.depth ≤ 8 ∧ kvs.length < sizeLine ∧
  ∀ o, NDict P w (upd H3 d o) d (putK kvs k v) → (∀ ps, o ≠ .tbl ps) → D.nx σ (upd H3 d o)
def tDNewN (P : Program) (w : World) : TE := fun _ H Q => ∀ p o, H p = none → (∀ ps, o ≠ .tbl ps) → NDict P w (upd H p o) p [] → Q (.ref p) (upd H p o)
section
variable {X : Cx} {o i e value : Expr} {pos pos' tpos : Pos} {td ty tv : TE}
theorem pe_nget (hu : X.A.units + 9 < cLine) (ho : PE X o td) (hi : PE X i ty) (hs : NoSl i) : PE X (.Subscript o i pos) (tNGet X.prog X.w td ty) := by
  refine ⟨fun pins s σ H Q I h => ?_⟩
  refine subD_of PySem.F.slot_dict_getitem.lookup hs (thn (ho.run pins s σ H _ I h) fun u s1 ⟨x, H1, I1, rx, q1⟩ => thn (hi.run pins s1 σ H1 _ I1 q1) fun iv s2 ⟨y, H2, I2, ry, d, b, kvs, k, v, ex, ey, n, hk, h8, g, q2⟩ => ?_)
  subst ex ey
  obtain rfl : u = Value.ref d := rx
  obtain rfl : iv = Value.ref b := ry
  exact ⟨n_typeIs I2 n, n_getItem hu I2 n hk h8 g fun w' s3 I3 rw' => ⟨v, H2, I3, rw', q2⟩⟩
theorem pc_nin (hu : X.A.units + 9 < cLine) (hi : PE X i ty) (ho : PE X o td) : PC X .In i o (tNIn X.prog X.w ty td) := by
  refine ⟨fun pins s σ H Q I h => ?_⟩
  refine thn (hi.run pins s σ H _ I h) fun iv s1 ⟨y, H1, I1, ry, q1⟩ => thn (ho.run pins s1 σ H1 _ I1 q1) fun u s2 ⟨x, H2, I2, rx, d, b, kvs, k, ex, ey, n, hk, h8, q2⟩ => ?_
  subst ex ey
  obtain rfl : u = Value.ref d := rx
  obtain rfl : iv = Value.ref b := ry
  exact n_in hu I2 n hk h8 fun s3 I3 => ⟨.bl (valV kvs k).isSome, H2, I3, rfl, q2⟩
theorem pc_nnotin (hu : X.A.units + 9 < cLine) (hi : PE X i ty) (ho : PE X o td) : PC X .NotIn i o (tNNotIn X.prog X.w ty td) := by
  refine ⟨fun pins s σ H Q I h => ?_⟩
  refine thn (hi.run pins s σ H _ I h) fun iv s1 ⟨y, H1, I1, ry, q1⟩ => thn (ho.run pins s1 σ H1 _ I1 q1) fun u s2 ⟨x, H2, I2, rx, d, b, kvs, k, ex, ey, n, hk, h8, q2⟩ => ?_
  subst ex ey
  obtain rfl : u = Value.ref d := rx
  obtain rfl : iv = Value.ref b := ry
  exact n_notIn hu I2 n hk h8 fun s3 I3 => ⟨.bl (!(valV kvs k).isSome), H2, I3, rfl, q2⟩
theorem ps_nput (hu : X.A.units + 9 < cLine) (ho : PE X o td) (hi : PE X i ty) (hv : PE X value tv) (hs : swapsWith value (some (.Subscript o i pos')) pos.line X.env = pure false) :
    PS X (.Assign [.Subscript o i pos'] value pos) (sNPut X.prog X.w td ty tv) := by
  refine ⟨fun pins s σ H D I h => ?_⟩
  refine wpAny_Assign_Subscript (thn (hv.run pins s σ H _ I h) fun r s1 ⟨v, H1, I1, rv, q1⟩ => thn (ho.run pins s1 σ H1 _ I1 q1) fun u s2 ⟨x, H2, I2, rx, q2⟩ => thn (hi.run pins s2 σ H2 _ I2 q2) fun iv s3 ⟨y, H3, I3, ry, d, b, kvs, k, ex, ey, n, hk, h8, hl, q3⟩ => ?_) hs
  subst ex ey
  obtain rfl : u = Value.ref d := rx
  obtain rfl : iv = Value.ref b := ry
  exact n_setItem hu I3 n hk h8 hl rv fun o s4 n' nt I4 => ⟨σ, _, I4, q3 o n' nt⟩
theorem pe_dnewN : PE X (.Dict [] [] pos) (tDNewN X.prog X.w) := ⟨fun pins s σ H Q I h =>
  wpAny_Dict_empty ⟨.ref s.heap.objs.size, _, I.laid (a := s.heap.objs.size) (o := NDo X.prog X.w s.heap.objs.size []) (t' := s.toks) (fun _ _ q => Heap.get?_push_of_some _ q) (Nat.le_refl _)
      (NDo_ok ⟨_, #[], 0, Heap.get?_push_size _ rfl, ⟨rfl, rfl, rfl⟩, rfl, rfl⟩), rfl,
    h _ _ (I.hok.fresh (Nat.le_refl _)) (fun ps z => by cases z) ⟨⟨[], upd_same, .nil, List.nodup_nil⟩, beq_eq_false_iff_ne.mpr (Ne.symm (Nat.ne_of_lt I.big)), Nat.zero_le _⟩⟩⟩
end
end L2

end
section
set_option maxRecDepth 100000
set_option maxHeartbeats 2000000
/-! A def of the text, from the head's facts to its promise; calls of such defs by name. -/
namespace L2
open PySem PySem.Spec PyProof.Rows
/-- f(e, ..): the promise of f -/
def tCallR (sp : Sp) (E : XK) (t : TA) : TE := fun σ H Q => t σ H fun vs H1 => sp vs H1 Q E
section
variable {X : Cx} {CX : CXT} {k : Nat} {f : Addr} {sp : Sp} {E : XK} {x : Str} {p pos : Pos} {e : Expr} {es : List Expr} {t : TA}
theorem pe_callR (F : FnR X.prog X.w X.K X.mg X.base CX k f sp) (hr : Room k X.A) (hk : PySem.W.keepIn X.K (.ref f) = true) (hg : Gl X x) (hm : X.mg x = some (.ref f)) (hx : Passes CX X E) (ha : PA X (e :: es) t)
    (hdb : (x == ("__debug__" : Str)) = false := by decide) (he : starEach (e :: es) X.env = (false, eval e X.env) :: starEach es X.env := by rfl) (hpl : (backTo pos (starEach es X.env)).any (·.1) = false := by rfl) :
    PE X (.Call (.Name x p) (e :: es) [] pos) (tCallR sp E t) := by
  refine ⟨fun pins s σ H Q I h => ?_⟩
  refine wpAny_Call_Name_kw (ld_glob I hg hm ?_ hdb)
  refine PySem.W.callWith_K (h₀ := X.base) I.ok.mod.kin hk (thn (ha.run pos pins s σ H _ I h) fun us s1 ⟨vs, H1, I1, r, q⟩ => ⟨I1.kIn, ?_⟩) he hpl
  exact wpAny_call (run_fnR F hr hx I1 r q)
end
section
variable {P : Program} {w : World} {K : PySem.W.Frag} {mg : Str → Option Value} {base : Heap} {CX : CXT} {f : Addr} {x qual : Str} {params : Arguments} {body : List Stmt} {scope : Scope}
/-- a def keeps its promise: its body as a term of rules, and the reading of that term -/
theorem fnR_of {N ps : List Str} {k : Nat} {sp : Sp} (hF : ∃ fd, FunD K x qual params body scope [] [] f fd) (S : FnScope N ps scope)
    (hb : ∀ (kV doc pm : Value) (an : Option Addr) (cdv ct : Value) (us : List Value), us.length = ps.length → bindArgs (PySem.W.fnOf x qual params body scope .none kV doc pm an cdv ct) ⟨us, []⟩ = pure (ps.zip us))
    (len : ∀ vs H Q E, sp vs H Q E → vs.length = ps.length)
    (hbody : ∀ (cdv : Value) (A : Around) (outer : List Env) (s : Shared) (H : Hp) (vs : List V) (Q : VK) (E : XK), Room k (A.deeper (envOfC qual scope s.heap.objs.size f cdv)) → sp vs H Q E →
      ∃ t, PSs (cxOf CX P w K mg base N qual scope f cdv A outer s H E) body t ∧ t { nx := fun _ H' => Q .non H', rt := Q } (start N vs) H) : FnR P w K mg base CX (k + 1) f sp := by
  obtain ⟨fd, F⟩ := hF
  refine ((F.ok S len hbody).raw (F.bindsN hb) .nil).imp fun vs H Q E hs => ?_
  rw [List.append_nil]
  exact hs
/-- .. no exception leaves it -/
theorem fnR0_of {N ps : List Str} {k : Nat} {sp : Sp} (hF : ∃ fd, FunD K x qual params body scope [] [] f fd) (S : FnScope N ps scope)
    (hb : ∀ (kV doc pm : Value) (an : Option Addr) (cdv ct : Value) (us : List Value), us.length = ps.length → bindArgs (PySem.W.fnOf x qual params body scope .none kV doc pm an cdv ct) ⟨us, []⟩ = pure (ps.zip us))
    (len : ∀ vs H Q E, sp vs H Q E → vs.length = ps.length)
    (hbody : ∀ (cdv : Value) (A : Around) (outer : List Env) (s : Shared) (H : Hp) (vs : List V) (Q : VK) (E : XK), Room k (A.deeper (envOfC qual scope s.heap.objs.size f cdv)) → sp vs H Q E →
      ∃ t, PSs (cxOf CX0 P w K mg base N qual scope f cdv A outer s H E).nox body t ∧ t { nx := fun _ H' => Q .non H', rt := Q } (start N vs) H) : FnR P w K mg base CX0 (k + 1) f sp :=
  fnR_of hF S hb len fun cdv A outer s H vs Q E hr h => let ⟨t, h1, h2⟩ := hbody cdv A outer s H vs Q E hr h; ⟨t, h1.nox, h2⟩
/-- .. and its code object is the one that the head's facts name -/
theorem fnR0_ofC {N ps : List Str} {k : Nat} {sp : Sp} {d : Str × Option Str} (hF : ∃ fd, FunD K x qual params body scope [] [] (He.fAd K d) fd) (S : FnScope N ps scope)
    (hb : ∀ (kV doc pm : Value) (an : Option Addr) (cdv ct : Value) (us : List Value), us.length = ps.length → bindArgs (PySem.W.fnOf x qual params body scope .none kV doc pm an cdv ct) ⟨us, []⟩ = pure (ps.zip us))
    (len : ∀ vs H Q E, sp vs H Q E → vs.length = ps.length)
    (hbody : ∀ (cdv : Value) (A : Around) (outer : List Env) (s : Shared) (H : Hp) (vs : List V) (Q : VK) (E : XK), cdv = .ref (He.codeOf K d) → Room k (A.deeper (envOfC qual scope s.heap.objs.size (He.fAd K d) cdv)) → sp vs H Q E →
      ∃ t, PSs (cxOf CX0 P w K mg base N qual scope (He.fAd K d) cdv A outer s H E).nox body t ∧ t { nx := fun _ H' => Q .non H', rt := Q } (start N vs) H) : FnR P w K mg base CX0 (k + 1) (He.fAd K d) sp := by
  obtain ⟨fd, F⟩ := hF
  have hB := F.bindsN hb
  obtain ⟨oc, od, dV, kV, doc, pm, an, cdv, ct, osl, rfl, lk, hcd, _, _⟩ := F.ex
  obtain ⟨c, ec⟩ := He.codeIn_ref hcd
  have e2 := He.codeOf_eq lk ec
  have G : FnOk P w K mg base CX0 (k + 1) (He.fAd K d) (PySem.W.fnOf x qual params body scope dV kV doc pm an cdv ct) ps sp := fn_of lk hcd S len fun A outer s H vs Q E hr hsp => by
    obtain ⟨t, h1, h2⟩ := hbody cdv A outer s H vs Q E (by rw [e2]; exact ec) hr hsp
    exact ⟨t, h1.nox, h2⟩
  refine (G.raw hB .nil).imp fun vs H Q E hs => ?_
  rw [List.append_nil]
  exact hs
end
/-! ### constants of the top -/
section
variable {X : Cx} {x : Str} {pos : Pos}
theorem pe_gint {i : Int} (h : ∃ t, X.mg x = some (.int i t)) (hg : Gl X x := by rfl) (hdb : (x == ("__debug__" : Str)) = false := by decide) : PE X (.Name x pos) (tC (.int i)) := by
  obtain ⟨t, h⟩ := h
  exact pe_glob hg h ⟨t, rfl⟩ hdb
theorem pe_gstr {z : Str} (h : ∃ t, X.mg x = some (.str z t)) (hg : Gl X x := by rfl) (hdb : (x == ("__debug__" : Str)) = false := by decide) : PE X (.Name x pos) (tC (.str z)) := by
  obtain ⟨t, h⟩ := h
  exact pe_glob hg h ⟨t, rfl⟩ hdb
end
theorem iteT' {c : Bool} {A B : Prop} (hc : c = true) (h : A) : if c = true then A else B := by rw [if_pos hc]; exact h
theorem iteF' {c : Bool} {A B : Prop} (hc : c = false) (h : B) : if c = true then A else B := by rw [hc, if_neg Bool.false_ne_true]; exact h
/-! ### heaps -/
/-- what was tracked and isn't in fp is as it was -/
def Keeps (fp : List Addr) (H H' : Hp) : Prop := ∀ b o, H b = some o → b ∉ fp → H' b = some o
theorem Keeps.refl (fp : List Addr) (H : Hp) : Keeps fp H H := fun _ _ h _ => h
theorem Keeps.trans {fp : List Addr} {H H1 H2 : Hp} (a : Keeps fp H H1) (b : Keeps fp H1 H2) : Keeps fp H H2 := fun c o h n => b c o (a c o h n) n
theorem Keeps.mono {fp fp' : List Addr} {H H1 : Hp} (a : Keeps fp H H1) (h : ∀ b, b ∈ fp → b ∈ fp') : Keeps fp' H H1 := fun c o e n => a c o e (fun z => n (h c z))
theorem Keeps.new {fp : List Addr} {H : Hp} {p : Addr} (h : H p = none) (o : HO) : Keeps fp H (upd H p o) := fun b u e _ => by rw [upd_ne (ne_of_none e h)]; exact e
theorem Keeps.upd_mem {fp : List Addr} {H : Hp} {p : Addr} (h : p ∈ fp) (o : HO) : Keeps fp H (upd H p o) := fun b u e n => by rw [upd_ne (fun z => n (by rw [z]; exact h))]; exact e
theorem Keeps.tup {fp : List Addr} {H H' : Hp} (k : Keeps fp H H') {b : Addr} {xs : List V} (h : H b = some (.tup xs)) (hn : b ∉ fp) : H' b = some (.tup xs) := k b _ h hn
theorem Keeps.none {fp : List Addr} {H H' : Hp} (k : Keeps fp H H') {l : Addr} (h : H' l = none) (hn : l ∉ fp) : H l = none := by
  cases q : H l with
  | none => rfl
  | some o => rw [k l o q hn] at h; cases h
/-- .. but tables of code objects may grow -/
def KeepX (fp : List Addr) (H H' : Hp) : Prop := ∀ b o, H b = some o → b ∉ fp → (∀ ps, o ≠ .tbl ps) → H' b = some o
theorem KeepX.refl (fp : List Addr) (H : Hp) : KeepX fp H H := fun _ _ h _ _ => h
theorem KeepX.trans {fp : List Addr} {H H1 H2 : Hp} (a : KeepX fp H H1) (b : KeepX fp H1 H2) : KeepX fp H H2 := fun c o h n t => b c o (a c o h n t) n t
theorem KeepX.mono {fp fp' : List Addr} {H H1 : Hp} (a : KeepX fp H H1) (h : ∀ b, b ∈ fp → b ∈ fp') : KeepX fp' H H1 := fun c o e n t => a c o e (fun z => n (h c z)) t
theorem Keeps.x {fp : List Addr} {H H1 : Hp} (a : Keeps fp H H1) : KeepX fp H H1 := fun c o e n _ => a c o e n
theorem KeepX.new {fp : List Addr} {H : Hp} {p : Addr} (h : H p = none) (o : HO) : KeepX fp H (upd H p o) := (Keeps.new h o).x
theorem KeepX.tup {fp : List Addr} {H H' : Hp} (k : KeepX fp H H') {b : Addr} {xs : List V} (h : H b = some (.tup xs)) (hn : b ∉ fp) : H' b = some (.tup xs) := k b _ h hn fun ps z => by cases z
theorem KeepX.lst {fp : List Addr} {H H' : Hp} (k : KeepX fp H H') {b : Addr} {xs : List V} (h : H b = some (.lst xs)) (hn : b ∉ fp) : H' b = some (.lst xs) := k b _ h hn fun ps z => by cases z
theorem KeepX.dk {fp : List Addr} {H H' : Hp} (k : KeepX fp H H') {b : Addr} {xs : List (Key × V)} (h : H b = some (.dK xs)) (hn : b ∉ fp) : H' b = some (.dK xs) := k b _ h hn fun ps z => by cases z
theorem KeepX.ofN {H H' : Hp} (k : ∀ b o, H b = some o → (∀ ps, o ≠ .tbl ps) → H' b = some o) : KeepX [] H H' := fun b o e _ t => k b o e t
theorem KeepX.free {fp : List Addr} {H H' : Hp} (k : KeepX fp H H') {l : Addr} (h : H' l = none) (hn : l ∉ fp) : H l = none ∨ ∃ ps, H l = some (.tbl ps) := by
  cases q : H l with
  | none => exact .inl rfl
  | some o =>
    by_cases e : ∃ ps, o = .tbl ps
    · obtain ⟨ps, rfl⟩ := e
      exact .inr ⟨ps, rfl⟩
    · rw [k l o q hn (fun ps z => e ⟨ps, z⟩)] at h
      cases h
end L2

end
section
set_option maxRecDepth 100000
set_option maxHeartbeats 4000000
/-! An own error some levels below ValueError whose __init__ says super().__init__(value); self.value = value. Turned from skeleton 42. -/
namespace PySem
namespace NeX
open PySem.W PySem.Calls PyProof.Rows PySem.HandSPX
/-! ### the text of __init__ -/
def iA (p1 p2 : Pos) : Arguments := { posonlyargs := [], args := [{ arg := "self", annotation := none, pos := p1 }, { arg := "value", annotation := none, pos := p2 }], vararg := none, kwonlyargs := [], kw_defaults := [], kwarg := none, defaults := [] }
def iB (q1 q2 q3 q4 : Pos) : List Stmt := [.Expr (.Call (.Attribute (.Call (.Name "super" ⟨8, 8, 8, 13⟩) [] [] ⟨8, 8, 8, 15⟩) "__init__" ⟨8, 8, 8, 24⟩) [.Name "value" ⟨8, 25, 8, 30⟩] [] ⟨8, 8, 8, 31⟩) ⟨8, 8, 8, 31⟩, .Assign [.Attribute (.Name "self" q1) "value" q2] (.Name "value" q3) q4]
def iS : Scope := { kind := .function, names := [(PySem.Str.ofString "self", .local), (PySem.Str.ofString "value", .local), (PySem.Str.ofString "__class__", .free), (PySem.Str.ofString "super", .globalImplicit)], isGenerator := false, isCoroutine := false, more := [] }
/-- what the written part says of the error's class at C, the class at D whose __init__, at fI, is run -/
structure NeTxt (K : Frag) (P : Program) (C D fI : Addr) : Prop where
  cls : ∃ nm q N bs bm sn sub ab col dd k0 k1 k2 k3 k5, K.lookup C = some (excClassObj nm q C N bs bm true sn sub ab col dd k0 k1 k2 k3 k5 "ValueError.__new__") ∧ refsVE bm = true
  sa : findIn K (.ref C) "__setattr__" = some (some (.builtin "object.__setattr__"))
  noN : findIn K (.ref C) "value" = some none
  iC : findIn K (.ref C) "__init__" = some (some (.ref fI))
  tC : typeIn K (.ref fI) = some (.type "function")
  kC : keepIn K (.ref C) = true
  exC : subIn K (.ref C) (.type "BaseException") = some true
  tyC : typeIn K (.ref C) = some (.type "type")
  sup : ks_superIn K C D "__init__" = some (some (.builtin "ValueError.__init__"))
  hB : subIn K (.ref C) (.type "ValueError") = some true
  hno : nsIn K cStatics "thirdparty.any" = some none
  hD : ∃ cd, clsIn K D = some cd
  hsub : mroIn K C (.ref D) = some true
  file : ∃ (oc : Value) (od : Option Addr) (doc pm : Value) (an : Option Addr) (cda : Addr) (ct : Value) (osl : Array (Option Value)) (cc : Addr) (p1 p2 q1 q2 q3 q4 : Pos) (q : Str) (ccl : Value) (cdd : Option Addr) (vs : Array Value) (ccs : Array (Option Value)) (f : Str) (tf : Tok) (cl : Value) (cld : Option Addr) (csl : Array (Option Value)),
    K.lookup fI = some ⟨oc, od, .func (fnX "__init__" q (iA p1 p2) (iB q1 q2 q3 q4) iS [("__class__", cc)] .none .none doc pm an (.ref cda) ct), osl⟩ ∧ codeIn K (.ref cda) q = true ∧
    K.lookup cda = some ⟨ccl, cdd, .fields vs, ccs⟩ ∧ vs[2]? = some (.str f tf) ∧ ((P.main.file : Str) == f) = true ∧ K.lookup cc = some ⟨cl, cld, .cell (some (.ref D)), csl⟩
  top : (P.main.scope.names.lookup ("super" : Str)).isSome = false
theorem one_size (v : Value) : [v].length ≤ sizeLine := by
  rw [sizeLine_eq]
  exact (by decide : 1 ≤ 16777216)
theorem kept_but {K : Frag} {h h' : Heap} {x : Addr} (X : K.In h) (hx : K.lookup x = none) (k : ∀ b o, b ≠ x → h.get? b = some o → h'.get? b = some o) : K.In h' := fun a o e =>
  k a o (fun z => by rw [z, hx] at e; cases e) (X a o e)
/-- what __init__ leaves of a fresh exception at x -/
structure InitEnd (h h' : Heap) (x C dx t1 : Addr) (v : Value) : Prop where
  keep : ∀ b o, b ≠ x → h.get? b = some o → h'.get? b = some o
  obj : h'.get? x = some { cls := .ref C, dict := some dx, data := .fields #[.ref t1, .none, .none, .none, .bool false, .none] }
  dbig : h.objs.size ≤ dx
  dne : dx ≠ x
  ns : h'.Ns1 dx (fun y => if y = "value" then some v else none)
/-- a made error -/
structure OwnMade (h h' : Heap) (e C d : Addr) (v : Value) : Prop where
  keep : ∀ b o, h.get? b = some o → h'.get? b = some o
  new : h.objs.size ≤ e
  obj : ∃ oe vs, h'.get? e = some oe ∧ oe.cls = .ref C ∧ oe.dict = some d ∧ oe.data = .fields vs ∧ vs[1]? = some .none
  dbig : h.objs.size ≤ d
  dne : d ≠ e
  ns : h'.Ns1 d (fun y => if y = "value" then some v else none)
section
variable {P : Program} {w : World} {A : Around} {E : Value → Shared → Prop} {R : Result → Shared → Prop} {s : Shared} {K : Frag} {mg : Str → Option Value} {C D fI : Addr}
theorem ne_init (T : NeTxt K P C D fI) {x t0 : Addr} {v : Value} (X : K.In s.heap) (G : s.heap.Ns mainGlobals mg) (hsuper : mg "super" = none) (B : ∃ mb, s.heap.Ns builtinsNs mb ∧ ∀ x : Str, x ≠ "__name__" → mb x = bootBuiltins x) (hlim : s.heap.NoLimit) (hx : s.heap.get? x = some (excO C t0)) (hnx : K.lookup x = none) (hroom : A.depth < recursionLimit)
    (hq : ∀ h' tk dx t1, InitEnd s.heap h' x C dx t1 v → R (.ok (.ret .none)) { s with heap := h', toks := tk }) :
    codeAny (model P w) A (.call (.ref fI) ⟨[.ref x, v], []⟩) R s := by
  obtain ⟨oc, od, doc, pm, an, cda, ct, osl, cc, p1, p2, q1, q2, q3, q4, q, ccl, cdd, vs, ccs, f, tf, cl, cld, csl, ho, hcd, hcode, hvs, hfile, hcell⟩ := T.file
  obtain ⟨nm, qc, N, bs, bm, sn, sub, ab, col, dd, k0, k1, k2, k3, k5, hC, hbm⟩ := T.cls
  have hcl : clsIn K C = some { name := nm, bases := bs, mro := .ref C :: bm, ns := N, qualname := qc, hasDict := true, slotNames := sn, subclasses := sub, abstract := ab, collection := col, hasDel := false } := by unfold clsIn; rw [hC] <;> rfl
  obtain ⟨mb, hmb, hboot⟩ := B
  obtain ⟨cdD, hD⟩ := T.hD
  refine ks_codeAny_call_defAt (fd := fnX "__init__" q (iA p1 p2) (iB q1 q2 q3 q4) iS [("__class__", cc)] .none .none doc pm an (.ref cda) ct) (body := iB q1 q2 q3 q4) (binds := [("self", .ref x), ("value", v)]) hroom (X _ _ ho) rfl hlim (codeRec_of X hcd) rfl
    (BindsTo.of_eq (by first | rfl | with_unfolding_all rfl)) (show ∀ x ∈ iS.names, x.2 ≠ .cell by decide +kernel) (fun y hy => by
      rcases List.mem_cons.mp hy with rfl | hy
      · rfl
      · rw [List.mem_singleton.mp hy]; rfl) (fun h₁ hns k => ?_) rfl rfl rfl
  obtain ⟨hp, g, d, t, os⟩ := s
  have X₁ : K.In h₁ := X.keeps k
  have hx₁ := k _ _ hx
  have hxL : hp.objs.size ≠ x := Nat.ne_of_gt (Heap.lt_size hx)
  obtain ⟨oD, hD1, hD2⟩ : ∃ oD, h₁.get? D = some oD ∧ oD.data = .cls cdD := by
    unfold clsIn at hD
    split at hD
    · rename_i c d cd' sl ho
      cases hD
      exact ⟨_, X₁ _ _ ho, rfl⟩
    · cases hD
  -- super().__init__(value)
  refine ks_wpAt_execs_cons (ks_wpAt_Expr_any (ks_wpAt_MethodCall ?_))
  refine ks_wpAt_super_base rfl rfl (by decide) rfl (X₁ _ _ ho) rfl rfl rfl (X₁ _ _ hcode) rfl hvs hfile T.top ?_
  refine ks_loadName_global rfl rfl (loadGlobal_builtin (G.keeps k) hsuper (hmb.keeps k) ((hboot _ (by decide)).trans (by decide +kernel : bootBuiltins "super" = some (.type "super"))) ⟨rfl, ?_⟩)
  refine wpAny_loadName_free rfl rfl rfl ⟨_, X₁ _ _ hcell, rfl⟩ ?_
  refine wpAny_loadName_local (v := .ref x) rfl rfl hns (by first | rfl | with_unfolding_all rfl | kernel_rfl) ?_
  refine ks_wpAny_isType_cls hD1 hD2 ⟨rfl, ?_⟩
  refine ks_wpAny_call_super hD1 hD2 hx₁ rfl (fun c e => by cases e) (looks_mroIn X₁ T.hsub) (fun h2 e2 k2 => ?_)
  have X₂ : K.In h2 := X₁.keeps k2
  have hx2 := k2 _ _ hx₁
  have I2 : InstAt h2 x (excO C t0) C none := ⟨hx2, rfl, rfl, trivial⟩
  have hsup := T.sup
  unfold ks_superIn at hsup
  rw [hcl] at hsup
  refine kxs_getMethod kxs_ValueError e2 (looks_opaque X₂ T.hno) (l₀ := .ref C :: bm) (fun A Q E s k q => wpAny_bind ((looks_clsIn X₂ hcl) A _ E s k (wpAny_pure q))) rfl X₂ hsup (I2.type.andThen (looks_subIn X₂ T.hB)) (ks_ne X₂ I2 hcl) (by decide) ?_
  refine kxs_callWith (i := "ValueError.__init__") (x := x) rfl (evalArgs_plain ?_)
  have kL : ∀ b o, h₁.get? b = some o → (h2.push (kxs_mw "ValueError.__init__" x)).get? b = some o := fun b o e => Heap.get?_push_of_some _ (k2 b o e)
  have k3 : ∀ b o, hp.get? b = some o → (h2.push (kxs_mw "ValueError.__init__" x)).get? b = some o := fun b o e => kL b o (k b o e)
  have hu3 : (h2.push (kxs_mw "ValueError.__init__" x)).get? h2.objs.size = some (kxs_mw "ValueError.__init__" x) := Heap.get?_push_size _ rfl
  have hn3 : (h2.push (kxs_mw "ValueError.__init__" x)).Ns hp.objs.size (fun y => ([(("self" : Str), Value.ref x), ("value", v)] : List (Str × Value)).reverse.lookup y) := hns.keeps kL
  have hx3 := kL _ _ hx₁
  have z3 : hp.objs.size < (h2.push (kxs_mw "ValueError.__init__" x)).objs.size := hn3.lt
  generalize h2.push (kxs_mw "ValueError.__init__" x) = h3 at *
  refine spliced_more (wpAny_Name (wpAny_loadName_local (v := v) rfl rfl hn3 (by first | rfl | with_unfolding_all rfl | kernel_rfl) (spliced_none ⟨hu3, ?_⟩)) (by decide)) rfl
  show wpAny _ _ (call (.ref h2.objs.size) [v]) _ _ _
  refine wpAny_call (codeAny_of_tree ?_)
  show wpAny _ _ (callAny (.ref h2.objs.size) ⟨[v], []⟩) _ _ _
  simp only [callAny]
  refine wpAny_bind (wpAny_load hu3 ?_)
  simp only [kxs_mw, show (Value.type "method-wrapper" == Value.type "method" || Value.type "method-wrapper" == Value.type "builtin_function_or_method" || Value.type "method-wrapper" == Value.type "method-wrapper") = true by decide, if_true]
  refine KFB.if_so (by decide) ?_
  refine wpAny_bind (check_bound_init F.excBase_ValueError.toExcCallFacts ((X.keeps k3) _ _ hC) hx3 rfl ?_)
  refine wpAny_bind (wpAny_pure (wpAny_pure ?_))
  refine ⟨plainId_quiet F.excBase_ValueError.init.plain _, codeAny_builtin F.excBase_ValueError.initEntry ?_⟩
  refine exc_init_tree (cls := .ref C) (t0 := t0) (dv := none) (c2 := .none) (c3 := .none) (b4 := .bool false) hx3 (one_size v) fun h4 k4 e4 t4 => ?_
  -- self.value = value
  have X₄ : K.In h4 := kept_but (X.keeps k3) hnx k4
  have hn4 : h4.Ns hp.objs.size (fun y => ([(("self" : Str), Value.ref x), ("value", v)] : List (Str × Value)).reverse.lookup y) := hn3.at fun o e => k4 _ _ hxL e
  refine ks_wpAt_execs_cons (ks_wpAt_Assign_Attr (wpAt_of_wpAny (wpAny_Name (wpAny_loadName_local (v := v) rfl rfl hn4 (by first | rfl | with_unfolding_all rfl | kernel_rfl) ?_) (by decide))))
  refine wpAny_Name (wpAny_loadName_local (v := .ref x) rfl rfl hn4 (by first | rfl | with_unfolding_all rfl | kernel_rfl) ?_) (by decide)
  refine set_plain X₄ (ox := excO C h3.objs.size) (od := none) ⟨e4, rfl, rfl, trivial⟩ T.sa ?_
  refine exc_osa X₄ e4 hcl (show refsVE (.ref C :: bm) = true from hbm) rfl T.noN (fun h₅ tk₅ dx k₅ dn dne hx₅ hn₅ => ?_)
  have z4 : hp.objs.size < h4.objs.size := hn4.lt
  exact wpAt_of_wpAny (wpAny_execs_nil (hq h₅ tk₅ dx h3.objs.size ⟨fun b o hb e => k₅ b o hb (k4 b o hb (k3 b o e)), hx₅, Nat.le_of_lt (Nat.lt_of_lt_of_le z4 dn), dne, hn₅⟩))
theorem ne_made (T : NeTxt K P C D fI) {v : Value} (X : K.In s.heap) (G : s.heap.Ns mainGlobals mg) (hsuper : mg "super" = none) (B : ∃ mb, s.heap.Ns builtinsNs mb ∧ ∀ x : Str, x ≠ "__name__" → mb x = bootBuiltins x) (hlim : s.heap.NoLimit) (hroom : A.depth + 1 < recursionLimit)
    (hq : ∀ h' tk e d, OwnMade s.heap h' e C d v → R (.ok (.ret (.ref e))) { s with heap := h', toks := tk }) :
    codeAny (model P w) A (.call (.ref C) ⟨[v], []⟩) R s := by
  obtain ⟨nm, q, N, bs, bm, sn, sub, ab, col, dd, k0, k1, k2, k3, k5, hC, hbm⟩ := T.cls
  obtain ⟨hp, g, dr, tk, os⟩ := s
  have k : ∀ b o, hp.get? b = some o → ((hp.push (kdv_tup [v])).push (excO C hp.objs.size)).get? b = some o := fun b o e => Heap.get?_push_of_some _ (Heap.get?_push_of_some _ e)
  have hget : ((hp.push (kdv_tup [v])).push (excO C hp.objs.size)).get? (hp.objs.size + 1) = some (excO C hp.objs.size) := by heap_get
  have hnx : K.lookup (hp.objs.size + 1) = none := by
    cases e : K.lookup (hp.objs.size + 1) with
    | none => rfl
    | some o =>
      have z : hp.get? (hp.objs.size + 1) = some o := X _ _ e
      exact absurd (Nat.lt_of_succ_lt (Heap.lt_size z)) (Nat.lt_irrefl _)
  refine call_own F.excBase_ValueError (fun X => refsVE_contains X bm hbm) (X _ _ hC) (looks_findIn X T.iC) (fun self => bind_fn X self T.tC) (one_size v) ?_
  obtain ⟨mb, hmb, hboot⟩ := B
  refine ne_init (s := ⟨(hp.push (kdv_tup [v])).push (excO C hp.objs.size), g, dr, tk, os⟩) T (X.keeps k) (G.keeps k) hsuper ⟨mb, hmb.keeps k, hboot⟩ (hlim.keeps k) hget hnx ?_ fun h' tk' dx t1 ⟨k', hx, dn, dne, hns⟩ => ?_
  · show A.depth + 1 < recursionLimit
    exact hroom
  · have old : ∀ b o, hp.get? b = some o → h'.get? b = some o := fun b o e => k' b o (Nat.ne_of_lt (Nat.lt_succ_of_lt (Heap.lt_size e))) (k b o e)
    have z : hp.objs.size + 1 + 1 ≤ dx := by
      first
        | (simpa only [Heap.size_push] using dn)
        | exact dn
        | (have q := dn; rw [Heap.size_push, Heap.size_push] at q; exact q)
    exact ⟨rfl, hq h' tk' (hp.objs.size + 1) dx ⟨old, Nat.le_succ _, ⟨_, _, hx, rfl, rfl, rfl, rfl⟩, Nat.le_trans (Nat.le_trans (Nat.le_succ _) (Nat.le_succ _)) z, dne, hns⟩⟩
end
end NeX
end PySem
namespace L2
open PySem PySem.Spec PyProof.Rows
theorem relO_ne {v : V} {v' : Value} (r : RelV v v') (f : Str) : RelO (List.lookup f [(("value" : Str), v)]) (if f = "value" then some v' else none) := by
  by_cases hw : f = "value"
  · subst hw
    rw [if_pos rfl]
    have q : List.lookup ("value" : Str) [(("value" : Str), v)] = some v := by simp [List.lookup]
    rw [q]
    exact r
  · rw [if_neg hw]
    have qw : (f == ("value" : Str)) = false := by simpa using hw
    have q2 : List.lookup f [(("value" : Str), v)] = none := by simp [List.lookup, qw]
    rw [q2]
    trivial
section
variable {X : Cx} {C D fI : Addr}
/-- C(e) -/
def tMkNe (C : Addr) (ta : TA) : St → Hp → XK → Prop := fun σ H Q => ta σ H fun vs H1 => ∃ v, vs = [v] ∧ ∀ d, H1 d = none → Q (.ref C) (some d) (upd H1 d (.xd [(("value" : Str), v)]))
theorem pmk_ne {x : Str} {a : Expr} {ta : TA} {p pos : Pos} {k : Nat} (T : PySem.NeX.NeTxt X.K X.prog C D fI) (hr : Room k X.A) (hs : X.mg "super" = none) (hg : Gl X x) (hm : X.mg x = some (.ref C)) (ha : PA X [a] ta) (hdb : (x == ("__debug__" : Str)) = false := by decide)
    (he : starEach (a :: []) X.env = (false, eval a X.env) :: starEach [] X.env := by rfl) (hpl : (backTo pos (starEach [] X.env)).any (·.1) = false := by rfl) :
    PMk X (.Call (.Name x p) [a] [] pos) (tMkNe C ta) := by
  intro pins s σ H Q I h
  refine wpAny_Call_Name_kw (ld_glob I hg hm ?_ hdb)
  refine PySem.W.callWith_K (h₀ := X.base) I.ok.mod.kin T.kC (thn (ha.run pos pins s σ H _ I h) fun us s1 hh => ?_) he hpl
  obtain ⟨vs, H1, I1, r1, v, ev, q1⟩ := hh
  subst ev
  refine ⟨I1.kIn, ?_⟩
  cases r1 with
  | cons rv rn =>
    rename_i v' us'
    cases rn
    show wpAny _ _ (call (.ref C) [v']) _ _ _
    have hlim := I1.nolimit
    obtain ⟨mb, hb1, hb2⟩ := I1.mod.blt
    have hG := I1.mod.glob.keeps I1.bk
    have hB := hb1.keeps I1.bk
    obtain ⟨hp, g, dr, tk, os⟩ := s1
    refine wpAny_call (PySem.NeX.ne_made T I1.kIn hG hs ⟨mb, hB, hb2⟩ hlim (by have := hr.dp; omega) fun h' tk' e d M => ?_)
    show MkP X pins σ Q (.ref e) ⟨h', g, dr, tk', os⟩
    obtain ⟨oe, fv, hoe, hc, hd, hdat, h1⟩ := M.obj
    have hns := M.ns
    obtain ⟨G', g1, g2⟩ := restrict h' fun b => decide (b ≠ e)
    have gk : ∀ b, b ≠ e → G'.get? b = h'.get? b := fun b hb => g1 b (decide_eq_true hb)
    have ge : G'.get? e = none := g2 e (by simp)
    have old : ∀ b o, hp.get? b = some o → G'.get? b = some o := fun b o q => (gk b (Nat.ne_of_lt (Nat.lt_of_lt_of_le (Heap.lt_size q) M.new))).trans (M.keep b o q)
    have ob : ObjOk X.prog X.w (upd H1 d (.xd [(("value" : Str), v)])) G' d (.xd [(("value" : Str), v)]) :=
      ⟨_, hns.at (fun o q => (gk d M.dne).trans q), fun f => relO_ne rv f⟩
    have J : Inv X pins σ (upd H1 d (.xd [(("value" : Str), v)])) ⟨G', g, dr, tk', os⟩ := I1.laid (t' := tk') old M.dbig ob
    refine ⟨e, oe, fv, ⟨G', g, dr, tk', os⟩, _, .ref C, some d, rfl, J, fun b o q => ?_, ge, hoe, ⟨hc, hd⟩, hdat, h1, ?_, rfl, I1.bare, raises_own T.exC T.tyC, q1 d (I1.hok.fresh M.dbig)⟩
    · by_cases hb : b = e
      · have q' : G'.get? b = some o := q
        rw [hb, ge] at q'; cases q'
      · exact (gk b hb).symm.trans q
    · rw [upd_ne (Ne.symm M.dne)]
      exact I1.hok.fresh M.new
end
end L2

end
section
set_option maxRecDepth 100000
set_option maxHeartbeats 4000000
/-! A head's hook that holds the interpreter's statics too, and tells the text of an own error's __init__ whose closure holds its class. -/
namespace KxH
open PySem PySem.W PySem.Calls PyProof.Rows PySem.HandSPX He
theorem ba {a b : Bool} (h : (a && b) = true) : a = true ∧ b = true := Bool.and_eq_true_iff.mp h
/-- the class at C: an exception's, made by ValueError's maker -/
def clsXB (K : Frag) (C : Addr) : Bool := match K.lookup C with
  | some ⟨.type t, _, .cls ⟨_, _, m :: bm, _, _, hd, _, _, _, _, del⟩, sl⟩ => (match sl.toList with
    | [_, _, _, _, some (.builtin b), _] => decide (t = "type") && (decide (m = .ref C) && (hd && (!del && (decide (b = "ValueError.__new__") && refsVE bm))))
    | _ => false)
  | _ => false
theorem clsXB_ok {K : Frag} {C : Addr} (h : clsXB K C = true) : ∃ nm q N bs bm sn sub ab col dd k0 k1 k2 k3 k5, K.lookup C = some (excClassObj nm q C N bs bm true sn sub ab col dd k0 k1 k2 k3 k5 "ValueError.__new__") ∧ refsVE bm = true := by
  unfold clsXB at h
  split at h
  · rename_i t dd nm bs m bm N q hd sn sub ab col del sl hl
    split at h
    · rename_i k0 k1 k2 k3 b k5 hs
      obtain ⟨h1, h⟩ := ba h
      obtain ⟨h2, h⟩ := ba h
      obtain ⟨h3, h⟩ := ba h
      obtain ⟨h4, h⟩ := ba h
      obtain ⟨h5, h6⟩ := ba h
      have e1 := of_decide_eq_true h1
      have e2 := of_decide_eq_true h2
      have e4 : del = false := by cases del with
        | false => rfl
        | true => cases h4
      have e5 := of_decide_eq_true h5
      have e6 : sl = #[k0, k1, k2, k3, some (.builtin b), k5] := Array.toList_inj.mp hs
      subst e1 e2 h3 e4 e5 e6
      exact ⟨nm, q, N, bs, bm, sn, sub, ab, col, dd, k0, k1, k2, k3, k5, hl, h6⟩
    · cases h
  · cases h
/-- the function at fI: no defaults, its code object tells the file f, its one cell the class at D -/
def initB (K : Frag) (fI D : Addr) (q pf : PySem.Str) : Bool := match K.lookup fI with
  | some ⟨_, _, .func fd, _⟩ => decide (fd.defaults = .none) && (decide (fd.kwdefaults = .none) && ((match fd.code with
    | .ref cda => codeIn K (.ref cda) q && (match K.lookup cda with
      | some ⟨_, _, .fields vs, _⟩ => (match (vs[2]? : Option Value) with
        | some (.str f _) => pf == f
        | _ => false)
      | _ => false)
    | _ => false) && (match fd.closure with
    | [(_, cc)] => (match K.lookup cc with
      | some ⟨_, _, .cell (some (.ref b)), _⟩ => decide (b = D)
      | _ => false)
    | _ => false)))
  | _ => false
abbrev FnI : Type := Option (PySem.Str × PySem.Str × Arguments × FuncBody × Scope × Addr × List PySem.Str × Addr)
def initW (K : Frag) (fI : Addr) : FnI := match K.lookup fI with
  | some ⟨_, _, .func fd, _⟩ => some (fd.name, fd.qualname, fd.params, fd.body, fd.scope, fd.globals, fd.closure.map (·.1), fd.builtins)
  | _ => none
theorem file_ok {K : Frag} {fI D : Addr} {q pf : PySem.Str} {p1 p2 q1 q2 q3 q4 : Pos} (h : initB K fI D q pf = true)
    (e : initW K fI = some ((PySem.Str.ofString "__init__"), q, NeX.iA p1 p2, FuncBody.stmts (NeX.iB q1 q2 q3 q4), NeX.iS, mainGlobals, [(PySem.Str.ofString "__class__")], builtinsNs)) :
    ∃ (oc : Value) (od : Option Addr) (doc pm : Value) (an : Option Addr) (cda : Addr) (ct : Value) (osl : Array (Option Value)) (cc : Addr) (p1 p2 q1 q2 q3 q4 : Pos) (q : PySem.Str) (ccl : Value) (cdd : Option Addr) (vs : Array Value) (ccs : Array (Option Value)) (f : PySem.Str) (tf : Tok) (cl : Value) (cld : Option Addr) (csl : Array (Option Value)),
    K.lookup fI = some ⟨oc, od, .func (fnX "__init__" q (NeX.iA p1 p2) (NeX.iB q1 q2 q3 q4) NeX.iS [("__class__", cc)] .none .none doc pm an (.ref cda) ct), osl⟩ ∧ codeIn K (.ref cda) q = true ∧
    K.lookup cda = some ⟨ccl, cdd, .fields vs, ccs⟩ ∧ vs[2]? = some (.str f tf) ∧ (pf == f) = true ∧ K.lookup cc = some ⟨cl, cld, .cell (some (.ref D)), csl⟩ := by
  unfold initB at h
  unfold initW at e
  split at h
  · rename_i oc od fd osl hl
    rw [hl] at e
    obtain ⟨nm, qn, ps, bd, sc, gl, cl, dv, kv, doc, pm, an, code, ct, bl⟩ := fd
    have e := Option.some.inj e
    simp only [Prod.mk.injEq] at e
    obtain ⟨e1, e2, e3, e4, e5, e6, e7, e8⟩ := e
    subst e1 e2 e3 e4 e5 e6 e8
    obtain ⟨h1, h⟩ := ba h
    obtain ⟨h2, h⟩ := ba h
    obtain ⟨h3, h4⟩ := ba h
    have d1 := of_decide_eq_true h1
    have d2 := of_decide_eq_true h2
    dsimp only at d1 d2
    subst d1 d2
    dsimp only at h3 h4
    cases code with
    | ref cda =>
      obtain ⟨h5, h6⟩ := ba (show (codeIn K (.ref cda) qn && (match K.lookup cda with
        | some ⟨_, _, .fields vs, _⟩ => (match (vs[2]? : Option Value) with
          | some (.str f _) => pf == f
          | _ => false)
        | _ => false)) = true from h3)
      split at h6
      · rename_i ccl cdd vs ccs hc
        split at h6
        · rename_i f tf hv
          match cl, h4, e7, hl with
          | [], h4, _, _ => cases h4
          | _ :: _ :: _, h4, _, _ => cases h4
          | [(y, cc)], h4, e7, hl =>
            replace h4 : (match K.lookup cc with
              | some ⟨_, _, .cell (some (.ref b)), _⟩ => decide (b = D)
              | _ => false) = true := h4
            split at h4
            · rename_i c2 cld b csl hcc
              have eb := of_decide_eq_true h4
              subst eb
              have ey : y = PySem.Str.ofString "__class__" := by simpa using e7
              subst ey
              exact ⟨oc, od, doc, pm, an, cda, ct, osl, cc, p1, p2, q1, q2, q3, q4, _, ccl, cdd, vs, ccs, f, tf, c2, cld, csl, hl, h5, hc, hv, h6, hcc⟩
            · cases h4
        · cases h6
      · cases h6
    | _ => cases h3
  · cases h
def eqV (a b : Option (Option Value)) : Bool := decide (a = b)
/-- all that NeTxt asks, but the text -/
def neB (K : Frag) (C D fI : Addr) (q pf : PySem.Str) : Bool :=
  clsXB K C && (eqV (findIn K (.ref C) "__setattr__") (some (some (.builtin "object.__setattr__"))) && (eqV (findIn K (.ref C) "value") (some none) && (eqV (findIn K (.ref C) "__init__") (some (some (.ref fI))) &&
  (decide (typeIn K (.ref fI) = some (.type "function")) && (keepIn K (.ref C) && (decide (subIn K (.ref C) (.type "BaseException") = some true) && (decide (typeIn K (.ref C) = some (.type "type")) &&
  (eqV (ks_superIn K C D "__init__") (some (some (.builtin "ValueError.__init__"))) && (decide (subIn K (.ref C) (.type "ValueError") = some true) && (eqV (nsIn K cStatics "thirdparty.any") (some none) && ((clsIn K D).isSome && (decide (mroIn K C (.ref D) = some true) &&
  initB K fI D q pf))))))))))))
theorem ne_ok {K : Frag} {P : Program} {C D fI : Addr} {q pf : PySem.Str} {p1 p2 q1 q2 q3 q4 : Pos} (h : neB K C D fI q pf = true) (hpf : (P.main.file : PySem.Str) = pf) (top : (P.main.scope.names.lookup ("super" : PySem.Str)).isSome = false)
    (e : initW K fI = some ((PySem.Str.ofString "__init__"), q, NeX.iA p1 p2, FuncBody.stmts (NeX.iB q1 q2 q3 q4), NeX.iS, mainGlobals, [(PySem.Str.ofString "__class__")], builtinsNs)) : NeX.NeTxt K P C D fI := by
  unfold neB eqV at h
  obtain ⟨h1, h⟩ := ba h
  obtain ⟨h2, h⟩ := ba h
  obtain ⟨h3, h⟩ := ba h
  obtain ⟨h4, h⟩ := ba h
  obtain ⟨h5, h⟩ := ba h
  obtain ⟨h6, h⟩ := ba h
  obtain ⟨h7, h⟩ := ba h
  obtain ⟨h8, h⟩ := ba h
  obtain ⟨h9, h⟩ := ba h
  obtain ⟨h10, h⟩ := ba h
  obtain ⟨h11, h⟩ := ba h
  obtain ⟨h12, h⟩ := ba h
  obtain ⟨h13, h14⟩ := ba h
  refine ⟨clsXB_ok h1, of_decide_eq_true h2, of_decide_eq_true h3, of_decide_eq_true h4, of_decide_eq_true h5, h6, of_decide_eq_true h7, of_decide_eq_true h8, of_decide_eq_true h9, of_decide_eq_true h10, of_decide_eq_true h11, Option.isSome_iff_exists.mp h12, of_decide_eq_true h13, ?_, top⟩
  rw [hpf]
  exact file_ok h14 e
/-! ### the hook -/
def asZ (g : Addr → Option Obj) (n : Nat) : List Addr := asD g n ++ [cStatics]
abbrev AlZ : Type := AlX × FnI
def kZ (n : Nat) (g : Addr → Option Obj) : Frag := frT g (asZ g n)
def obsK (fa : List Fa) (fn : List DefD) (ts : List Tab) (tf : List Defn) (ex : Frag → Bool) (fI : Frag → Addr) (g : Addr → Option Obj) (K : Frag) : AlZ := ((obsT fa fn ts K, ex K && tabsB g tf K), initW K (fI K))
def obsZ (n : Nat) (fa : List Fa) (fn : List DefD) (ts : List Tab) (tf : List Defn) (ex : Frag → Bool) (fI : Frag → Addr) (g : Addr → Option Obj) : AlZ := obsK fa fn ts tf ex fI g (kZ n g)
def valZ (fn : List DefD) (ts : List Tab) (w : World) (i : FnI) : AlZ := (valX fn ts w, i)
structure SaysZ (fa : List Fa) (fn : List DefD) (ts : List Tab) (tf : List Defn) (ex : Frag → Bool) (fI : Frag → Addr) (i : FnI) (w : World) (h : Heap) (K : Frag) : Prop where
  x : SaysX fa fn ts tf ex w h K
  init : initW K (fI K) = i
theorem saysZ_of {n : Nat} {fa : List Fa} {fn : List DefD} {ts : List Tab} {tf : List Defn} {ex : Frag → Bool} {fI : Frag → Addr} {i : FnI} {w : World} {h : Heap} (e : obsZ n fa fn ts tf ex fI h.get? = valZ fn ts w i) : SaysZ fa fn ts tf ex fI i w h (kZ n h.get?) := by
  unfold obsZ obsK valZ at e
  have e0 := congrArg (fun z : AlZ => z.1) e
  have e1 : obsT fa fn ts (kZ n h.get?) = valT fn ts w := congrArg (fun z : AlX => z.1) e0
  have e2 : (ex (kZ n h.get?) && tabsB h.get? tf (kZ n h.get?)) = true := congrArg (fun z : AlX => z.2) e0
  obtain ⟨h1, h2⟩ := ba e2
  have key : ∀ p ∈ tf, codeHdIn (kZ n h.get?) (cT (kZ n h.get?) p).1 (cT (kZ n h.get?) p).2 = true ∧ ∃ o, h.get? (cT (kZ n h.get?) p).2 = some o ∧ emptyTab o = true := fun p hp => by
    obtain ⟨h3, h4⟩ := ba (List.all_eq_true.mp h2 p hp)
    refine ⟨h3, ?_⟩
    cases q : h.get? (cT (kZ n h.get?) p).2 with
    | none =>
      rw [q] at h4
      cases h4
    | some o =>
      rw [q] at h4
      exact ⟨o, rfl, h4⟩
  exact ⟨⟨e1, h1, fun p hp => (key p hp).1, fun p hp => by
    obtain ⟨_, o, q, z⟩ := key p hp
    exact frT_none q z, fun p hp => by
    obtain ⟨_, o, q, z⟩ := key p hp
    rw [q, emptyTab_eq z]⟩, congrArg (fun z : AlZ => z.2) e⟩
def hookZ (n : Nat) (fa : List Fa) (fn : List DefD) (ts : List Tab) (tf : List Defn) (ex : Frag → Bool) (fI : Frag → Addr) (i : FnI) : Hook where
  α := AlZ
  obs := fun s => obsZ n fa fn ts tf ex fI s.heap.get?
  val := fun w => valZ fn ts w i
  says := fun w h => ∃ K : Frag, K.In h ∧ SaysZ fa fn ts tf ex fI i w h K
  of := fun _ _ e => ⟨_, frT_in, saysZ_of e⟩
  keeps := fun _ _ _ ⟨K, hK, c⟩ k => ⟨K, Frag.In.keeps hK k, ⟨⟨c.x.t, c.x.more, c.x.hd, c.x.out, fun p hp => k _ _ (c.x.empty p hp)⟩, c.init⟩⟩
theorem obsZ_eq {n : Nat} {fa : List Fa} {fn : List DefD} {ts : List Tab} {tf : List Defn} {ex : Frag → Bool} {fI : Frag → Addr} {i : FnI} {g : Addr → Option Obj} {s : Shared} (h : ∀ a, g a = s.heap.get? a) : obsZ n fa fn ts tf ex fI g = (hookZ n fa fn ts tf ex fI i).obs s := by
  have e : g = s.heap.get? := funext h
  rw [e] <;> rfl
end KxH

end
section
set_option maxRecDepth 100000
set_option maxHeartbeats 4000000
/-! The text of the law by places, and what the head tells of it; printed by gen_k73.py. -/
namespace Wv
open PySem PySem.Spec PyProof.Rows L2
def top (i : Nat) : Stmt := PySem.Challenge.pw_whereversent_k73_great_heads_put_togethe.main.body.getD i (.Pass ⟨0, 0, 0, 0⟩)
abbrev s_NetError_initI : Stmt := inClass (top 2) 0
abbrev s_Trees_initI : Stmt := inClass (top 12) 0
abbrev s_Trees_levels : Stmt := inClass (top 12) 1
abbrev s_Trees_node : Stmt := inClass (top 12) 2
abbrev s_Trees_halves : Stmt := inClass (top 12) 4
abbrev s_Trees_both : Stmt := inClass (top 12) 5
abbrev s_Trees_rest : Stmt := inClass (top 12) 6
abbrev s_Trees_either : Stmt := inClass (top 12) 7
abbrev s_Trees_without : Stmt := inClass (top 12) 8
abbrev s_Trees_together : Stmt := inClass (top 12) 9
abbrev s_Trees_row : Stmt := inClass (top 12) 10
abbrev s_Trees_freed : Stmt := inClass (top 12) 11
abbrev s_Trees_put : Stmt := inClass (top 12) 12
abbrev s_Trees_put_back : Stmt := inClass (top 12) 13
abbrev s_Trees_many : Stmt := inClass (top 12) 14
abbrev s_Trees_below : Stmt := inClass (top 12) 15
abbrev s_Trees_many_parts : Stmt := inClass (top 12) 16
abbrev s_Trees_first : Stmt := inClass (top 12) 17
abbrev s_Trees_has : Stmt := inClass (top 12) 18
abbrev s_Trees_parts : Stmt := inClass (top 12) 19
abbrev s_doubled : Stmt := top 13
abbrev s_is_integer : Stmt := top 15
abbrev s_is_between : Stmt := top 16
abbrev s_check_width : Stmt := top 23
abbrev s_is_row : Stmt := top 24
abbrev s_is_head_of : Stmt := top 25
abbrev s_is_pattern_of : Stmt := top 26
abbrev s_is_mask_of : Stmt := top 27
abbrev s_are_patterns : Stmt := top 28
abbrev s_signs_of : Stmt := top 29
abbrev s_tree_of : Stmt := top 30
abbrev s_told_heads : Stmt := top 31
abbrev s_is_heads_of : Stmt := top 32
abbrev s_check_heads : Stmt := top 33
abbrev s_check_head : Stmt := top 34
abbrev s_is_heads : Stmt := top 35
abbrev s_plain : Stmt := top 36
abbrev s_fits : Stmt := top 37
abbrev s_has_head : Stmt := top 38
abbrev s_both : Stmt := top 39
abbrev s_either : Stmt := top 40
abbrev s_others : Stmt := top 41
abbrev s_how_many : Stmt := top 42
abbrev s_head_of : Stmt := top 43
abbrev s_least_head : Stmt := top 44
abbrev s_check_mask : Stmt := top 45
abbrev s_put_into : Stmt := top 46
abbrev s_put_before : Stmt := top 47
abbrev s_law_take : Stmt := top 49
abbrev s_law_of : Stmt := top 50
abbrev s_law_row : Stmt := top 51
abbrev s_law_patterns : Stmt := top 52
abbrev s_law_put : Stmt := top 53
abbrev s_law_pot : Stmt := top 54
abbrev s_law_heard : Stmt := top 55
abbrev s_law_right : Stmt := top 56
abbrev s_law : Stmt := top 57
def ds_Trees_initI : He.DefD := ⟨("Trees", some "__init__"), "__init__", "Trees.__init__", defArgs s_Trees_initI, defBody s_Trees_initI, defScope s_Trees_initI, [], []⟩
def ds_Trees_levels : He.DefD := ⟨("Trees", some "levels"), "levels", "Trees.levels", defArgs s_Trees_levels, defBody s_Trees_levels, defScope s_Trees_levels, [], []⟩
def ds_Trees_node : He.DefD := ⟨("Trees", some "node"), "node", "Trees.node", defArgs s_Trees_node, defBody s_Trees_node, defScope s_Trees_node, [], []⟩
def ds_Trees_halves : He.DefD := ⟨("Trees", some "halves"), "halves", "Trees.halves", defArgs s_Trees_halves, defBody s_Trees_halves, defScope s_Trees_halves, [], []⟩
def ds_Trees_both : He.DefD := ⟨("Trees", some "both"), "both", "Trees.both", defArgs s_Trees_both, defBody s_Trees_both, defScope s_Trees_both, [], []⟩
def ds_Trees_rest : He.DefD := ⟨("Trees", some "rest"), "rest", "Trees.rest", defArgs s_Trees_rest, defBody s_Trees_rest, defScope s_Trees_rest, [], []⟩
def ds_Trees_either : He.DefD := ⟨("Trees", some "either"), "either", "Trees.either", defArgs s_Trees_either, defBody s_Trees_either, defScope s_Trees_either, [], []⟩
def ds_Trees_without : He.DefD := ⟨("Trees", some "without"), "without", "Trees.without", defArgs s_Trees_without, defBody s_Trees_without, defScope s_Trees_without, [], []⟩
def ds_Trees_together : He.DefD := ⟨("Trees", some "together"), "together", "Trees.together", defArgs s_Trees_together, defBody s_Trees_together, defScope s_Trees_together, [], []⟩
def ds_Trees_row : He.DefD := ⟨("Trees", some "row"), "row", "Trees.row", defArgs s_Trees_row, defBody s_Trees_row, defScope s_Trees_row, [], []⟩
def ds_Trees_freed : He.DefD := ⟨("Trees", some "freed"), "freed", "Trees.freed", defArgs s_Trees_freed, defBody s_Trees_freed, defScope s_Trees_freed, [], []⟩
def ds_Trees_put : He.DefD := ⟨("Trees", some "put"), "put", "Trees.put", defArgs s_Trees_put, defBody s_Trees_put, defScope s_Trees_put, [], []⟩
def ds_Trees_put_back : He.DefD := ⟨("Trees", some "put_back"), "put_back", "Trees.put_back", defArgs s_Trees_put_back, defBody s_Trees_put_back, defScope s_Trees_put_back, [], []⟩
def ds_Trees_many : He.DefD := ⟨("Trees", some "many"), "many", "Trees.many", defArgs s_Trees_many, defBody s_Trees_many, defScope s_Trees_many, [], []⟩
def ds_Trees_below : He.DefD := ⟨("Trees", some "below"), "below", "Trees.below", defArgs s_Trees_below, defBody s_Trees_below, defScope s_Trees_below, [], []⟩
def ds_Trees_many_parts : He.DefD := ⟨("Trees", some "many_parts"), "many_parts", "Trees.many_parts", defArgs s_Trees_many_parts, defBody s_Trees_many_parts, defScope s_Trees_many_parts, [], []⟩
def ds_Trees_first : He.DefD := ⟨("Trees", some "first"), "first", "Trees.first", defArgs s_Trees_first, defBody s_Trees_first, defScope s_Trees_first, [], []⟩
def ds_Trees_has : He.DefD := ⟨("Trees", some "has"), "has", "Trees.has", defArgs s_Trees_has, defBody s_Trees_has, defScope s_Trees_has, [], []⟩
def ds_Trees_parts : He.DefD := ⟨("Trees", some "parts"), "parts", "Trees.parts", defArgs s_Trees_parts, defBody s_Trees_parts, defScope s_Trees_parts, [], []⟩
def ds_doubled : He.DefD := ⟨("doubled", none), "doubled", "doubled", defArgs s_doubled, defBody s_doubled, defScope s_doubled, [], []⟩
def ds_is_integer : He.DefD := ⟨("is_integer", none), "is_integer", "is_integer", defArgs s_is_integer, defBody s_is_integer, defScope s_is_integer, [], []⟩
def ds_is_between : He.DefD := ⟨("is_between", none), "is_between", "is_between", defArgs s_is_between, defBody s_is_between, defScope s_is_between, [], []⟩
def ds_check_width : He.DefD := ⟨("check_width", none), "check_width", "check_width", defArgs s_check_width, defBody s_check_width, defScope s_check_width, [], []⟩
def ds_is_row : He.DefD := ⟨("is_row", none), "is_row", "is_row", defArgs s_is_row, defBody s_is_row, defScope s_is_row, [], []⟩
def ds_is_head_of : He.DefD := ⟨("is_head_of", none), "is_head_of", "is_head_of", defArgs s_is_head_of, defBody s_is_head_of, defScope s_is_head_of, [], []⟩
def ds_is_pattern_of : He.DefD := ⟨("is_pattern_of", none), "is_pattern_of", "is_pattern_of", defArgs s_is_pattern_of, defBody s_is_pattern_of, defScope s_is_pattern_of, [], []⟩
def ds_is_mask_of : He.DefD := ⟨("is_mask_of", none), "is_mask_of", "is_mask_of", defArgs s_is_mask_of, defBody s_is_mask_of, defScope s_is_mask_of, [], []⟩
def ds_are_patterns : He.DefD := ⟨("are_patterns", none), "are_patterns", "are_patterns", defArgs s_are_patterns, defBody s_are_patterns, defScope s_are_patterns, [], []⟩
def ds_signs_of : He.DefD := ⟨("signs_of", none), "signs_of", "signs_of", defArgs s_signs_of, defBody s_signs_of, defScope s_signs_of, [], []⟩
def ds_tree_of : He.DefD := ⟨("tree_of", none), "tree_of", "tree_of", defArgs s_tree_of, defBody s_tree_of, defScope s_tree_of, [], []⟩
def ds_told_heads : He.DefD := ⟨("told_heads", none), "told_heads", "told_heads", defArgs s_told_heads, defBody s_told_heads, defScope s_told_heads, [], []⟩
def ds_is_heads_of : He.DefD := ⟨("is_heads_of", none), "is_heads_of", "is_heads_of", defArgs s_is_heads_of, defBody s_is_heads_of, defScope s_is_heads_of, [], []⟩
def ds_check_heads : He.DefD := ⟨("check_heads", none), "check_heads", "check_heads", defArgs s_check_heads, defBody s_check_heads, defScope s_check_heads, [], []⟩
def ds_check_head : He.DefD := ⟨("check_head", none), "check_head", "check_head", defArgs s_check_head, defBody s_check_head, defScope s_check_head, [], []⟩
def ds_is_heads : He.DefD := ⟨("is_heads", none), "is_heads", "is_heads", defArgs s_is_heads, defBody s_is_heads, defScope s_is_heads, [], []⟩
def ds_plain : He.DefD := ⟨("plain", none), "plain", "plain", defArgs s_plain, defBody s_plain, defScope s_plain, [], []⟩
def ds_fits : He.DefD := ⟨("fits", none), "fits", "fits", defArgs s_fits, defBody s_fits, defScope s_fits, [], []⟩
def ds_has_head : He.DefD := ⟨("has_head", none), "has_head", "has_head", defArgs s_has_head, defBody s_has_head, defScope s_has_head, [], []⟩
def ds_both : He.DefD := ⟨("both", none), "both", "both", defArgs s_both, defBody s_both, defScope s_both, [], []⟩
def ds_either : He.DefD := ⟨("either", none), "either", "either", defArgs s_either, defBody s_either, defScope s_either, [], []⟩
def ds_others : He.DefD := ⟨("others", none), "others", "others", defArgs s_others, defBody s_others, defScope s_others, [], []⟩
def ds_how_many : He.DefD := ⟨("how_many", none), "how_many", "how_many", defArgs s_how_many, defBody s_how_many, defScope s_how_many, [], []⟩
def ds_head_of : He.DefD := ⟨("head_of", none), "head_of", "head_of", defArgs s_head_of, defBody s_head_of, defScope s_head_of, [], []⟩
def ds_least_head : He.DefD := ⟨("least_head", none), "least_head", "least_head", defArgs s_least_head, defBody s_least_head, defScope s_least_head, [], []⟩
def ds_check_mask : He.DefD := ⟨("check_mask", none), "check_mask", "check_mask", defArgs s_check_mask, defBody s_check_mask, defScope s_check_mask, [], []⟩
def ds_put_into : He.DefD := ⟨("put_into", none), "put_into", "put_into", defArgs s_put_into, defBody s_put_into, defScope s_put_into, [], []⟩
def ds_put_before : He.DefD := ⟨("put_before", none), "put_before", "put_before", defArgs s_put_before, defBody s_put_before, defScope s_put_before, [], []⟩
def ds_law_take : He.DefD := ⟨("_law_take", none), "_law_take", "_law_take", defArgs s_law_take, defBody s_law_take, defScope s_law_take, [], []⟩
def ds_law_of : He.DefD := ⟨("_law_of", none), "_law_of", "_law_of", defArgs s_law_of, defBody s_law_of, defScope s_law_of, [], []⟩
def ds_law_row : He.DefD := ⟨("_law_row", none), "_law_row", "_law_row", defArgs s_law_row, defBody s_law_row, defScope s_law_row, [], []⟩
def ds_law_patterns : He.DefD := ⟨("_law_patterns", none), "_law_patterns", "_law_patterns", defArgs s_law_patterns, defBody s_law_patterns, defScope s_law_patterns, [], []⟩
def ds_law_put : He.DefD := ⟨("_law_put", none), "_law_put", "_law_put", defArgs s_law_put, defBody s_law_put, defScope s_law_put, [], []⟩
def ds_law_pot : He.DefD := ⟨("_law_pot", none), "_law_pot", "_law_pot", defArgs s_law_pot, defBody s_law_pot, defScope s_law_pot, [], []⟩
def ds_law_heard : He.DefD := ⟨("_law_heard", none), "_law_heard", "_law_heard", defArgs s_law_heard, defBody s_law_heard, defScope s_law_heard, [], []⟩
def ds_law_right : He.DefD := ⟨("_law_right", none), "_law_right", "_law_right", defArgs s_law_right, defBody s_law_right, defScope s_law_right, [], []⟩
def ds_law : He.DefD := ⟨("law", none), "law", "law", defArgs s_law, defBody s_law, defScope s_law, [], []⟩
def fn : List He.DefD := ([ds_Trees_initI, ds_Trees_levels, ds_Trees_node, ds_Trees_halves, ds_Trees_both, ds_Trees_rest, ds_Trees_either, ds_Trees_without, ds_Trees_together, ds_Trees_row, ds_Trees_freed, ds_Trees_put, ds_Trees_put_back, ds_Trees_many, ds_Trees_below, ds_Trees_many_parts, ds_Trees_first, ds_Trees_has, ds_Trees_parts, ds_doubled, ds_is_integer, ds_is_between, ds_check_width, ds_is_row, ds_is_head_of, ds_is_pattern_of, ds_is_mask_of, ds_are_patterns, ds_signs_of, ds_tree_of] : List He.DefD) ++ ([ds_told_heads, ds_is_heads_of, ds_check_heads, ds_check_head, ds_is_heads, ds_plain, ds_fits, ds_has_head, ds_both, ds_either, ds_others, ds_how_many, ds_head_of, ds_least_head, ds_check_mask, ds_put_into, ds_put_before, ds_law_take, ds_law_of, ds_law_row, ds_law_patterns, ds_law_put, ds_law_pot, ds_law_heard, ds_law_right, ds_law] : List He.DefD)
def fa : List He.Fa := ([.meth "Trees" "levels", .meth "Trees" "node", .meth "Trees" "halves", .meth "Trees" "both", .meth "Trees" "rest", .meth "Trees" "either", .meth "Trees" "without", .meth "Trees" "together", .meth "Trees" "row", .meth "Trees" "freed", .meth "Trees" "put", .meth "Trees" "put_back", .meth "Trees" "many", .meth "Trees" "below", .meth "Trees" "many_parts", .meth "Trees" "first", .meth "Trees" "has", .meth "Trees" "parts", .glo "doubled", .glo "is_integer", .glo "is_between", .glo "check_width", .glo "is_row", .glo "is_head_of", .glo "is_pattern_of", .glo "is_mask_of", .glo "are_patterns", .glo "signs_of", .glo "tree_of", .glo "told_heads"] : List He.Fa) ++ ([.glo "is_heads_of", .glo "check_heads", .glo "check_head", .glo "is_heads", .glo "plain", .glo "fits", .glo "has_head", .glo "both", .glo "either", .glo "others", .glo "how_many", .glo "head_of", .glo "least_head", .glo "check_mask", .glo "put_into", .glo "put_before", .glo "_law_take", .glo "_law_of", .glo "_law_row", .glo "_law_patterns", .glo "_law_put", .glo "_law_pot", .glo "_law_heard", .glo "_law_right", .glo "law", .glo "NetError", .keep "NetError", .glo "BadHead", .keep "BadHead", .glo "BadHeads"] : List He.Fa) ++ ([.keep "BadHeads", .glo "BadWidth", .keep "BadWidth", .glo "BadMask", .keep "BadMask", .glo "BadPatterns", .keep "BadPatterns", .glo "TooMany", .keep "TooMany", .glo "Trees", .keep "Trees", .cls "Trees", .mkr "Trees", .noat "Trees" "own_levels", .noat "Trees" "own_level", .noat "Trees" "own_low", .noat "Trees" "own_high", .noat "Trees" "own_known", .noat "Trees" "own_told", .int "NOTHING" 0, .int "ALL" 1, .int "MOST_WIDTH" 16, .int "MOST_PATTERNS" 4000, .str "SIGNS" "01", .str "ANY" "*", .str "STAY" "=", .free "len", .free "min", .free "max", .free "sorted"] : List He.Fa) ++ ([.free "tuple", .free "isinstance", .free "int", .free "str", .free "bool", .free "abs", .free "enumerate", .free "range", .free "zip", .free "all", .free "any", .free "ValueError", .free "super"] : List He.Fa)
def tf : List He.Defn := [("Trees", some "below"), ("law", none)]
def exT (K : PySem.W.Frag) : Bool := decide ((He.cT K ("Trees", some "below")).2 ≠ (He.cT K ("law", none)).2)
/-- where the errors' __init__ stands -/
def fI (K : PySem.W.Frag) : Addr := He.ma K (He.ga K "NetError") "__init__"
def exE (K : PySem.W.Frag) : Bool := KxH.neB K (He.ga K "TooMany") (He.ga K "NetError") (fI K) "NetError.__init__" PySem.Challenge.pw_whereversent_k73_great_heads_put_togethe.main.file && (decide (PySem.W.exmOne K (.ref (He.ga K "TooMany")) (.ref (He.ga K "NetError")) = some true) && xfB K (He.ga K "TooMany"))
def ex (K : PySem.W.Frag) : Bool := exT K && exE K
def vI : KxH.FnI := some ((PySem.Str.ofString "__init__"), (PySem.Str.ofString "NetError.__init__"), defArgs s_NetError_initI, .stmts (defBody s_NetError_initI), defScope s_NetError_initI, mainGlobals, [(PySem.Str.ofString "__class__")], builtinsNs)
/-- what is known behind the top -/
structure Tp (K : PySem.W.Frag) (mg : Str → Option Value) (w : World) (h : Heap) : Prop where
  X : K.In h
  G : h.Ns mainGlobals mg
  c : He.SaysX fa fn [] tf ex w h K
  ini : KxH.initW K (fI K) = vI
section
variable {K : PySem.W.Frag} {mg : Str → Option Value} {w : World} {h : Heap} (T : Tp K mg w h)
include T
theorem Tp.tabNe : (He.cT K ("Trees", some "below")).2 ≠ (He.cT K ("law", none)).2 := of_decide_eq_true (KxH.ba T.c.more).1
theorem Tp.exE : exE K = true := (KxH.ba T.c.more).2
theorem Tp.m_Trees_levels : Meth K (He.ga K "Trees") "levels" (He.ma K (He.ga K "Trees") "levels") := He.meth_ok (T.c.t.d.fact 0 (f := .meth "Trees" "levels") rfl)
theorem Tp.m_Trees_node : Meth K (He.ga K "Trees") "node" (He.ma K (He.ga K "Trees") "node") := He.meth_ok (T.c.t.d.fact 1 (f := .meth "Trees" "node") rfl)
theorem Tp.m_Trees_halves : Meth K (He.ga K "Trees") "halves" (He.ma K (He.ga K "Trees") "halves") := He.meth_ok (T.c.t.d.fact 2 (f := .meth "Trees" "halves") rfl)
theorem Tp.m_Trees_both : Meth K (He.ga K "Trees") "both" (He.ma K (He.ga K "Trees") "both") := He.meth_ok (T.c.t.d.fact 3 (f := .meth "Trees" "both") rfl)
theorem Tp.m_Trees_rest : Meth K (He.ga K "Trees") "rest" (He.ma K (He.ga K "Trees") "rest") := He.meth_ok (T.c.t.d.fact 4 (f := .meth "Trees" "rest") rfl)
theorem Tp.m_Trees_either : Meth K (He.ga K "Trees") "either" (He.ma K (He.ga K "Trees") "either") := He.meth_ok (T.c.t.d.fact 5 (f := .meth "Trees" "either") rfl)
theorem Tp.m_Trees_without : Meth K (He.ga K "Trees") "without" (He.ma K (He.ga K "Trees") "without") := He.meth_ok (T.c.t.d.fact 6 (f := .meth "Trees" "without") rfl)
theorem Tp.m_Trees_together : Meth K (He.ga K "Trees") "together" (He.ma K (He.ga K "Trees") "together") := He.meth_ok (T.c.t.d.fact 7 (f := .meth "Trees" "together") rfl)
theorem Tp.m_Trees_row : Meth K (He.ga K "Trees") "row" (He.ma K (He.ga K "Trees") "row") := He.meth_ok (T.c.t.d.fact 8 (f := .meth "Trees" "row") rfl)
theorem Tp.m_Trees_freed : Meth K (He.ga K "Trees") "freed" (He.ma K (He.ga K "Trees") "freed") := He.meth_ok (T.c.t.d.fact 9 (f := .meth "Trees" "freed") rfl)
theorem Tp.m_Trees_put : Meth K (He.ga K "Trees") "put" (He.ma K (He.ga K "Trees") "put") := He.meth_ok (T.c.t.d.fact 10 (f := .meth "Trees" "put") rfl)
theorem Tp.m_Trees_put_back : Meth K (He.ga K "Trees") "put_back" (He.ma K (He.ga K "Trees") "put_back") := He.meth_ok (T.c.t.d.fact 11 (f := .meth "Trees" "put_back") rfl)
theorem Tp.m_Trees_many : Meth K (He.ga K "Trees") "many" (He.ma K (He.ga K "Trees") "many") := He.meth_ok (T.c.t.d.fact 12 (f := .meth "Trees" "many") rfl)
theorem Tp.m_Trees_below : Meth K (He.ga K "Trees") "below" (He.ma K (He.ga K "Trees") "below") := He.meth_ok (T.c.t.d.fact 13 (f := .meth "Trees" "below") rfl)
theorem Tp.m_Trees_many_parts : Meth K (He.ga K "Trees") "many_parts" (He.ma K (He.ga K "Trees") "many_parts") := He.meth_ok (T.c.t.d.fact 14 (f := .meth "Trees" "many_parts") rfl)
theorem Tp.m_Trees_first : Meth K (He.ga K "Trees") "first" (He.ma K (He.ga K "Trees") "first") := He.meth_ok (T.c.t.d.fact 15 (f := .meth "Trees" "first") rfl)
theorem Tp.m_Trees_has : Meth K (He.ga K "Trees") "has" (He.ma K (He.ga K "Trees") "has") := He.meth_ok (T.c.t.d.fact 16 (f := .meth "Trees" "has") rfl)
theorem Tp.m_Trees_parts : Meth K (He.ga K "Trees") "parts" (He.ma K (He.ga K "Trees") "parts") := He.meth_ok (T.c.t.d.fact 17 (f := .meth "Trees" "parts") rfl)
theorem Tp.m_doubled : mg "doubled" = some (.ref (He.ga K "doubled")) := He.glo_ok T.X T.G (T.c.t.d.fact 18 (f := .glo "doubled") rfl)
theorem Tp.m_is_integer : mg "is_integer" = some (.ref (He.ga K "is_integer")) := He.glo_ok T.X T.G (T.c.t.d.fact 19 (f := .glo "is_integer") rfl)
theorem Tp.m_is_between : mg "is_between" = some (.ref (He.ga K "is_between")) := He.glo_ok T.X T.G (T.c.t.d.fact 20 (f := .glo "is_between") rfl)
theorem Tp.m_check_width : mg "check_width" = some (.ref (He.ga K "check_width")) := He.glo_ok T.X T.G (T.c.t.d.fact 21 (f := .glo "check_width") rfl)
theorem Tp.m_is_row : mg "is_row" = some (.ref (He.ga K "is_row")) := He.glo_ok T.X T.G (T.c.t.d.fact 22 (f := .glo "is_row") rfl)
theorem Tp.m_is_head_of : mg "is_head_of" = some (.ref (He.ga K "is_head_of")) := He.glo_ok T.X T.G (T.c.t.d.fact 23 (f := .glo "is_head_of") rfl)
theorem Tp.m_is_pattern_of : mg "is_pattern_of" = some (.ref (He.ga K "is_pattern_of")) := He.glo_ok T.X T.G (T.c.t.d.fact 24 (f := .glo "is_pattern_of") rfl)
theorem Tp.m_is_mask_of : mg "is_mask_of" = some (.ref (He.ga K "is_mask_of")) := He.glo_ok T.X T.G (T.c.t.d.fact 25 (f := .glo "is_mask_of") rfl)
theorem Tp.m_are_patterns : mg "are_patterns" = some (.ref (He.ga K "are_patterns")) := He.glo_ok T.X T.G (T.c.t.d.fact 26 (f := .glo "are_patterns") rfl)
theorem Tp.m_signs_of : mg "signs_of" = some (.ref (He.ga K "signs_of")) := He.glo_ok T.X T.G (T.c.t.d.fact 27 (f := .glo "signs_of") rfl)
theorem Tp.m_tree_of : mg "tree_of" = some (.ref (He.ga K "tree_of")) := He.glo_ok T.X T.G (T.c.t.d.fact 28 (f := .glo "tree_of") rfl)
theorem Tp.m_told_heads : mg "told_heads" = some (.ref (He.ga K "told_heads")) := He.glo_ok T.X T.G (T.c.t.d.fact 29 (f := .glo "told_heads") rfl)
theorem Tp.m_is_heads_of : mg "is_heads_of" = some (.ref (He.ga K "is_heads_of")) := He.glo_ok T.X T.G (T.c.t.d.fact 30 (f := .glo "is_heads_of") rfl)
theorem Tp.m_check_heads : mg "check_heads" = some (.ref (He.ga K "check_heads")) := He.glo_ok T.X T.G (T.c.t.d.fact 31 (f := .glo "check_heads") rfl)
theorem Tp.m_check_head : mg "check_head" = some (.ref (He.ga K "check_head")) := He.glo_ok T.X T.G (T.c.t.d.fact 32 (f := .glo "check_head") rfl)
theorem Tp.m_is_heads : mg "is_heads" = some (.ref (He.ga K "is_heads")) := He.glo_ok T.X T.G (T.c.t.d.fact 33 (f := .glo "is_heads") rfl)
theorem Tp.m_plain : mg "plain" = some (.ref (He.ga K "plain")) := He.glo_ok T.X T.G (T.c.t.d.fact 34 (f := .glo "plain") rfl)
theorem Tp.m_fits : mg "fits" = some (.ref (He.ga K "fits")) := He.glo_ok T.X T.G (T.c.t.d.fact 35 (f := .glo "fits") rfl)
theorem Tp.m_has_head : mg "has_head" = some (.ref (He.ga K "has_head")) := He.glo_ok T.X T.G (T.c.t.d.fact 36 (f := .glo "has_head") rfl)
theorem Tp.m_both : mg "both" = some (.ref (He.ga K "both")) := He.glo_ok T.X T.G (T.c.t.d.fact 37 (f := .glo "both") rfl)
theorem Tp.m_either : mg "either" = some (.ref (He.ga K "either")) := He.glo_ok T.X T.G (T.c.t.d.fact 38 (f := .glo "either") rfl)
theorem Tp.m_others : mg "others" = some (.ref (He.ga K "others")) := He.glo_ok T.X T.G (T.c.t.d.fact 39 (f := .glo "others") rfl)
theorem Tp.m_how_many : mg "how_many" = some (.ref (He.ga K "how_many")) := He.glo_ok T.X T.G (T.c.t.d.fact 40 (f := .glo "how_many") rfl)
theorem Tp.m_head_of : mg "head_of" = some (.ref (He.ga K "head_of")) := He.glo_ok T.X T.G (T.c.t.d.fact 41 (f := .glo "head_of") rfl)
theorem Tp.m_least_head : mg "least_head" = some (.ref (He.ga K "least_head")) := He.glo_ok T.X T.G (T.c.t.d.fact 42 (f := .glo "least_head") rfl)
theorem Tp.m_check_mask : mg "check_mask" = some (.ref (He.ga K "check_mask")) := He.glo_ok T.X T.G (T.c.t.d.fact 43 (f := .glo "check_mask") rfl)
theorem Tp.m_put_into : mg "put_into" = some (.ref (He.ga K "put_into")) := He.glo_ok T.X T.G (T.c.t.d.fact 44 (f := .glo "put_into") rfl)
theorem Tp.m_put_before : mg "put_before" = some (.ref (He.ga K "put_before")) := He.glo_ok T.X T.G (T.c.t.d.fact 45 (f := .glo "put_before") rfl)
theorem Tp.m_law_take : mg "_law_take" = some (.ref (He.ga K "_law_take")) := He.glo_ok T.X T.G (T.c.t.d.fact 46 (f := .glo "_law_take") rfl)
theorem Tp.m_law_of : mg "_law_of" = some (.ref (He.ga K "_law_of")) := He.glo_ok T.X T.G (T.c.t.d.fact 47 (f := .glo "_law_of") rfl)
theorem Tp.m_law_row : mg "_law_row" = some (.ref (He.ga K "_law_row")) := He.glo_ok T.X T.G (T.c.t.d.fact 48 (f := .glo "_law_row") rfl)
theorem Tp.m_law_patterns : mg "_law_patterns" = some (.ref (He.ga K "_law_patterns")) := He.glo_ok T.X T.G (T.c.t.d.fact 49 (f := .glo "_law_patterns") rfl)
theorem Tp.m_law_put : mg "_law_put" = some (.ref (He.ga K "_law_put")) := He.glo_ok T.X T.G (T.c.t.d.fact 50 (f := .glo "_law_put") rfl)
theorem Tp.m_law_pot : mg "_law_pot" = some (.ref (He.ga K "_law_pot")) := He.glo_ok T.X T.G (T.c.t.d.fact 51 (f := .glo "_law_pot") rfl)
theorem Tp.m_law_heard : mg "_law_heard" = some (.ref (He.ga K "_law_heard")) := He.glo_ok T.X T.G (T.c.t.d.fact 52 (f := .glo "_law_heard") rfl)
theorem Tp.m_law_right : mg "_law_right" = some (.ref (He.ga K "_law_right")) := He.glo_ok T.X T.G (T.c.t.d.fact 53 (f := .glo "_law_right") rfl)
theorem Tp.m_law : mg "law" = some (.ref (He.ga K "law")) := He.glo_ok T.X T.G (T.c.t.d.fact 54 (f := .glo "law") rfl)
theorem Tp.m_NetError : mg "NetError" = some (.ref (He.ga K "NetError")) := He.glo_ok T.X T.G (T.c.t.d.fact 55 (f := .glo "NetError") rfl)
theorem Tp.k_NetError : PySem.W.keepIn K (.ref (He.ga K "NetError")) = true := He.keep_ok (T.c.t.d.fact 56 (f := .keep "NetError") rfl)
theorem Tp.m_BadHead : mg "BadHead" = some (.ref (He.ga K "BadHead")) := He.glo_ok T.X T.G (T.c.t.d.fact 57 (f := .glo "BadHead") rfl)
theorem Tp.k_BadHead : PySem.W.keepIn K (.ref (He.ga K "BadHead")) = true := He.keep_ok (T.c.t.d.fact 58 (f := .keep "BadHead") rfl)
theorem Tp.m_BadHeads : mg "BadHeads" = some (.ref (He.ga K "BadHeads")) := He.glo_ok T.X T.G (T.c.t.d.fact 59 (f := .glo "BadHeads") rfl)
theorem Tp.k_BadHeads : PySem.W.keepIn K (.ref (He.ga K "BadHeads")) = true := He.keep_ok (T.c.t.d.fact 60 (f := .keep "BadHeads") rfl)
theorem Tp.m_BadWidth : mg "BadWidth" = some (.ref (He.ga K "BadWidth")) := He.glo_ok T.X T.G (T.c.t.d.fact 61 (f := .glo "BadWidth") rfl)
theorem Tp.k_BadWidth : PySem.W.keepIn K (.ref (He.ga K "BadWidth")) = true := He.keep_ok (T.c.t.d.fact 62 (f := .keep "BadWidth") rfl)
theorem Tp.m_BadMask : mg "BadMask" = some (.ref (He.ga K "BadMask")) := He.glo_ok T.X T.G (T.c.t.d.fact 63 (f := .glo "BadMask") rfl)
theorem Tp.k_BadMask : PySem.W.keepIn K (.ref (He.ga K "BadMask")) = true := He.keep_ok (T.c.t.d.fact 64 (f := .keep "BadMask") rfl)
theorem Tp.m_BadPatterns : mg "BadPatterns" = some (.ref (He.ga K "BadPatterns")) := He.glo_ok T.X T.G (T.c.t.d.fact 65 (f := .glo "BadPatterns") rfl)
theorem Tp.k_BadPatterns : PySem.W.keepIn K (.ref (He.ga K "BadPatterns")) = true := He.keep_ok (T.c.t.d.fact 66 (f := .keep "BadPatterns") rfl)
theorem Tp.m_TooMany : mg "TooMany" = some (.ref (He.ga K "TooMany")) := He.glo_ok T.X T.G (T.c.t.d.fact 67 (f := .glo "TooMany") rfl)
theorem Tp.k_TooMany : PySem.W.keepIn K (.ref (He.ga K "TooMany")) = true := He.keep_ok (T.c.t.d.fact 68 (f := .keep "TooMany") rfl)
theorem Tp.m_Trees : mg "Trees" = some (.ref (He.ga K "Trees")) := He.glo_ok T.X T.G (T.c.t.d.fact 69 (f := .glo "Trees") rfl)
theorem Tp.k_Trees : PySem.W.keepIn K (.ref (He.ga K "Trees")) = true := He.keep_ok (T.c.t.d.fact 70 (f := .keep "Trees") rfl)
theorem Tp.cl_Trees : Cls K (He.ga K "Trees") := He.cls_ok (T.c.t.d.fact 71 (f := .cls "Trees") rfl)
theorem Tp.mk_Trees : Mk K (He.ga K "Trees") (He.ma K (He.ga K "Trees") "__init__") := He.mkr_ok (T.c.t.d.fact 72 (f := .mkr "Trees") rfl)
theorem Tp.n_Trees_own_levels : NoAttr K (He.ga K "Trees") "own_levels" := He.noat_ok (T.c.t.d.fact 73 (f := .noat "Trees" "own_levels") rfl)
theorem Tp.n_Trees_own_level : NoAttr K (He.ga K "Trees") "own_level" := He.noat_ok (T.c.t.d.fact 74 (f := .noat "Trees" "own_level") rfl)
theorem Tp.n_Trees_own_low : NoAttr K (He.ga K "Trees") "own_low" := He.noat_ok (T.c.t.d.fact 75 (f := .noat "Trees" "own_low") rfl)
theorem Tp.n_Trees_own_high : NoAttr K (He.ga K "Trees") "own_high" := He.noat_ok (T.c.t.d.fact 76 (f := .noat "Trees" "own_high") rfl)
theorem Tp.n_Trees_own_known : NoAttr K (He.ga K "Trees") "own_known" := He.noat_ok (T.c.t.d.fact 77 (f := .noat "Trees" "own_known") rfl)
theorem Tp.n_Trees_own_told : NoAttr K (He.ga K "Trees") "own_told" := He.noat_ok (T.c.t.d.fact 78 (f := .noat "Trees" "own_told") rfl)
theorem Tp.i_NOTHING : ∃ t, mg "NOTHING" = some (.int 0 t) := He.int_ok T.X T.G (T.c.t.d.fact 79 (f := .int "NOTHING" 0) rfl)
theorem Tp.i_ALL : ∃ t, mg "ALL" = some (.int 1 t) := He.int_ok T.X T.G (T.c.t.d.fact 80 (f := .int "ALL" 1) rfl)
theorem Tp.i_MOST_WIDTH : ∃ t, mg "MOST_WIDTH" = some (.int 16 t) := He.int_ok T.X T.G (T.c.t.d.fact 81 (f := .int "MOST_WIDTH" 16) rfl)
theorem Tp.i_MOST_PATTERNS : ∃ t, mg "MOST_PATTERNS" = some (.int 4000 t) := He.int_ok T.X T.G (T.c.t.d.fact 82 (f := .int "MOST_PATTERNS" 4000) rfl)
theorem Tp.i_SIGNS : ∃ t, mg "SIGNS" = some (.str "01" t) := He.str_ok T.X T.G (T.c.t.d.fact 83 (f := .str "SIGNS" "01") rfl)
theorem Tp.i_ANY : ∃ t, mg "ANY" = some (.str "*" t) := He.str_ok T.X T.G (T.c.t.d.fact 84 (f := .str "ANY" "*") rfl)
theorem Tp.i_STAY : ∃ t, mg "STAY" = some (.str "=" t) := He.str_ok T.X T.G (T.c.t.d.fact 85 (f := .str "STAY" "=") rfl)
theorem Tp.z_len : mg "len" = none := He.free_ok T.X T.G (T.c.t.d.fact 86 (f := .free "len") rfl)
theorem Tp.z_min : mg "min" = none := He.free_ok T.X T.G (T.c.t.d.fact 87 (f := .free "min") rfl)
theorem Tp.z_max : mg "max" = none := He.free_ok T.X T.G (T.c.t.d.fact 88 (f := .free "max") rfl)
theorem Tp.z_sorted : mg "sorted" = none := He.free_ok T.X T.G (T.c.t.d.fact 89 (f := .free "sorted") rfl)
theorem Tp.z_tuple : mg "tuple" = none := He.free_ok T.X T.G (T.c.t.d.fact 90 (f := .free "tuple") rfl)
theorem Tp.z_isinstance : mg "isinstance" = none := He.free_ok T.X T.G (T.c.t.d.fact 91 (f := .free "isinstance") rfl)
theorem Tp.z_int : mg "int" = none := He.free_ok T.X T.G (T.c.t.d.fact 92 (f := .free "int") rfl)
theorem Tp.z_str : mg "str" = none := He.free_ok T.X T.G (T.c.t.d.fact 93 (f := .free "str") rfl)
theorem Tp.z_bool : mg "bool" = none := He.free_ok T.X T.G (T.c.t.d.fact 94 (f := .free "bool") rfl)
theorem Tp.z_abs : mg "abs" = none := He.free_ok T.X T.G (T.c.t.d.fact 95 (f := .free "abs") rfl)
theorem Tp.z_enumerate : mg "enumerate" = none := He.free_ok T.X T.G (T.c.t.d.fact 96 (f := .free "enumerate") rfl)
theorem Tp.z_range : mg "range" = none := He.free_ok T.X T.G (T.c.t.d.fact 97 (f := .free "range") rfl)
theorem Tp.z_zip : mg "zip" = none := He.free_ok T.X T.G (T.c.t.d.fact 98 (f := .free "zip") rfl)
theorem Tp.z_all : mg "all" = none := He.free_ok T.X T.G (T.c.t.d.fact 99 (f := .free "all") rfl)
theorem Tp.z_any : mg "any" = none := He.free_ok T.X T.G (T.c.t.d.fact 100 (f := .free "any") rfl)
theorem Tp.z_ValueError : mg "ValueError" = none := He.free_ok T.X T.G (T.c.t.d.fact 101 (f := .free "ValueError") rfl)
theorem Tp.z_super : mg "super" = none := He.free_ok T.X T.G (T.c.t.d.fact 102 (f := .free "super") rfl)
theorem Tp.F_Trees_initI : ∃ fd, FunD K "__init__" "Trees.__init__" (defArgs s_Trees_initI) (defBody s_Trees_initI) (defScope s_Trees_initI) [] [] (He.ma K (He.ga K "Trees") "__init__") fd := T.c.t.d.def_ 0 (d := ds_Trees_initI) rfl
theorem Tp.F_Trees_levels : ∃ fd, FunD K "levels" "Trees.levels" (defArgs s_Trees_levels) (defBody s_Trees_levels) (defScope s_Trees_levels) [] [] (He.ma K (He.ga K "Trees") "levels") fd := T.c.t.d.def_ 1 (d := ds_Trees_levels) rfl
theorem Tp.F_Trees_node : ∃ fd, FunD K "node" "Trees.node" (defArgs s_Trees_node) (defBody s_Trees_node) (defScope s_Trees_node) [] [] (He.ma K (He.ga K "Trees") "node") fd := T.c.t.d.def_ 2 (d := ds_Trees_node) rfl
theorem Tp.F_Trees_halves : ∃ fd, FunD K "halves" "Trees.halves" (defArgs s_Trees_halves) (defBody s_Trees_halves) (defScope s_Trees_halves) [] [] (He.ma K (He.ga K "Trees") "halves") fd := T.c.t.d.def_ 3 (d := ds_Trees_halves) rfl
theorem Tp.F_Trees_both : ∃ fd, FunD K "both" "Trees.both" (defArgs s_Trees_both) (defBody s_Trees_both) (defScope s_Trees_both) [] [] (He.ma K (He.ga K "Trees") "both") fd := T.c.t.d.def_ 4 (d := ds_Trees_both) rfl
theorem Tp.F_Trees_rest : ∃ fd, FunD K "rest" "Trees.rest" (defArgs s_Trees_rest) (defBody s_Trees_rest) (defScope s_Trees_rest) [] [] (He.ma K (He.ga K "Trees") "rest") fd := T.c.t.d.def_ 5 (d := ds_Trees_rest) rfl
theorem Tp.F_Trees_either : ∃ fd, FunD K "either" "Trees.either" (defArgs s_Trees_either) (defBody s_Trees_either) (defScope s_Trees_either) [] [] (He.ma K (He.ga K "Trees") "either") fd := T.c.t.d.def_ 6 (d := ds_Trees_either) rfl
theorem Tp.F_Trees_without : ∃ fd, FunD K "without" "Trees.without" (defArgs s_Trees_without) (defBody s_Trees_without) (defScope s_Trees_without) [] [] (He.ma K (He.ga K "Trees") "without") fd := T.c.t.d.def_ 7 (d := ds_Trees_without) rfl
theorem Tp.F_Trees_together : ∃ fd, FunD K "together" "Trees.together" (defArgs s_Trees_together) (defBody s_Trees_together) (defScope s_Trees_together) [] [] (He.ma K (He.ga K "Trees") "together") fd := T.c.t.d.def_ 8 (d := ds_Trees_together) rfl
theorem Tp.F_Trees_row : ∃ fd, FunD K "row" "Trees.row" (defArgs s_Trees_row) (defBody s_Trees_row) (defScope s_Trees_row) [] [] (He.ma K (He.ga K "Trees") "row") fd := T.c.t.d.def_ 9 (d := ds_Trees_row) rfl
theorem Tp.F_Trees_freed : ∃ fd, FunD K "freed" "Trees.freed" (defArgs s_Trees_freed) (defBody s_Trees_freed) (defScope s_Trees_freed) [] [] (He.ma K (He.ga K "Trees") "freed") fd := T.c.t.d.def_ 10 (d := ds_Trees_freed) rfl
theorem Tp.F_Trees_put : ∃ fd, FunD K "put" "Trees.put" (defArgs s_Trees_put) (defBody s_Trees_put) (defScope s_Trees_put) [] [] (He.ma K (He.ga K "Trees") "put") fd := T.c.t.d.def_ 11 (d := ds_Trees_put) rfl
theorem Tp.F_Trees_put_back : ∃ fd, FunD K "put_back" "Trees.put_back" (defArgs s_Trees_put_back) (defBody s_Trees_put_back) (defScope s_Trees_put_back) [] [] (He.ma K (He.ga K "Trees") "put_back") fd := T.c.t.d.def_ 12 (d := ds_Trees_put_back) rfl
theorem Tp.F_Trees_many : ∃ fd, FunD K "many" "Trees.many" (defArgs s_Trees_many) (defBody s_Trees_many) (defScope s_Trees_many) [] [] (He.ma K (He.ga K "Trees") "many") fd := T.c.t.d.def_ 13 (d := ds_Trees_many) rfl
theorem Tp.F_Trees_below : ∃ fd, FunD K "below" "Trees.below" (defArgs s_Trees_below) (defBody s_Trees_below) (defScope s_Trees_below) [] [] (He.ma K (He.ga K "Trees") "below") fd := T.c.t.d.def_ 14 (d := ds_Trees_below) rfl
theorem Tp.F_Trees_many_parts : ∃ fd, FunD K "many_parts" "Trees.many_parts" (defArgs s_Trees_many_parts) (defBody s_Trees_many_parts) (defScope s_Trees_many_parts) [] [] (He.ma K (He.ga K "Trees") "many_parts") fd := T.c.t.d.def_ 15 (d := ds_Trees_many_parts) rfl
theorem Tp.F_Trees_first : ∃ fd, FunD K "first" "Trees.first" (defArgs s_Trees_first) (defBody s_Trees_first) (defScope s_Trees_first) [] [] (He.ma K (He.ga K "Trees") "first") fd := T.c.t.d.def_ 16 (d := ds_Trees_first) rfl
theorem Tp.F_Trees_has : ∃ fd, FunD K "has" "Trees.has" (defArgs s_Trees_has) (defBody s_Trees_has) (defScope s_Trees_has) [] [] (He.ma K (He.ga K "Trees") "has") fd := T.c.t.d.def_ 17 (d := ds_Trees_has) rfl
theorem Tp.F_Trees_parts : ∃ fd, FunD K "parts" "Trees.parts" (defArgs s_Trees_parts) (defBody s_Trees_parts) (defScope s_Trees_parts) [] [] (He.ma K (He.ga K "Trees") "parts") fd := T.c.t.d.def_ 18 (d := ds_Trees_parts) rfl
theorem Tp.F_doubled : ∃ fd, FunD K "doubled" "doubled" (defArgs s_doubled) (defBody s_doubled) (defScope s_doubled) [] [] (He.ga K "doubled") fd := T.c.t.d.def_ 19 (d := ds_doubled) rfl
theorem Tp.k_doubled : PySem.W.keepIn K (.ref (He.ga K "doubled")) = true := let ⟨_, F⟩ := T.F_doubled; F.kp
theorem Tp.F_is_integer : ∃ fd, FunD K "is_integer" "is_integer" (defArgs s_is_integer) (defBody s_is_integer) (defScope s_is_integer) [] [] (He.ga K "is_integer") fd := T.c.t.d.def_ 20 (d := ds_is_integer) rfl
theorem Tp.k_is_integer : PySem.W.keepIn K (.ref (He.ga K "is_integer")) = true := let ⟨_, F⟩ := T.F_is_integer; F.kp
theorem Tp.F_is_between : ∃ fd, FunD K "is_between" "is_between" (defArgs s_is_between) (defBody s_is_between) (defScope s_is_between) [] [] (He.ga K "is_between") fd := T.c.t.d.def_ 21 (d := ds_is_between) rfl
theorem Tp.k_is_between : PySem.W.keepIn K (.ref (He.ga K "is_between")) = true := let ⟨_, F⟩ := T.F_is_between; F.kp
theorem Tp.F_check_width : ∃ fd, FunD K "check_width" "check_width" (defArgs s_check_width) (defBody s_check_width) (defScope s_check_width) [] [] (He.ga K "check_width") fd := T.c.t.d.def_ 22 (d := ds_check_width) rfl
theorem Tp.k_check_width : PySem.W.keepIn K (.ref (He.ga K "check_width")) = true := let ⟨_, F⟩ := T.F_check_width; F.kp
theorem Tp.F_is_row : ∃ fd, FunD K "is_row" "is_row" (defArgs s_is_row) (defBody s_is_row) (defScope s_is_row) [] [] (He.ga K "is_row") fd := T.c.t.d.def_ 23 (d := ds_is_row) rfl
theorem Tp.k_is_row : PySem.W.keepIn K (.ref (He.ga K "is_row")) = true := let ⟨_, F⟩ := T.F_is_row; F.kp
theorem Tp.F_is_head_of : ∃ fd, FunD K "is_head_of" "is_head_of" (defArgs s_is_head_of) (defBody s_is_head_of) (defScope s_is_head_of) [] [] (He.ga K "is_head_of") fd := T.c.t.d.def_ 24 (d := ds_is_head_of) rfl
theorem Tp.k_is_head_of : PySem.W.keepIn K (.ref (He.ga K "is_head_of")) = true := let ⟨_, F⟩ := T.F_is_head_of; F.kp
theorem Tp.F_is_pattern_of : ∃ fd, FunD K "is_pattern_of" "is_pattern_of" (defArgs s_is_pattern_of) (defBody s_is_pattern_of) (defScope s_is_pattern_of) [] [] (He.ga K "is_pattern_of") fd := T.c.t.d.def_ 25 (d := ds_is_pattern_of) rfl
theorem Tp.k_is_pattern_of : PySem.W.keepIn K (.ref (He.ga K "is_pattern_of")) = true := let ⟨_, F⟩ := T.F_is_pattern_of; F.kp
theorem Tp.F_is_mask_of : ∃ fd, FunD K "is_mask_of" "is_mask_of" (defArgs s_is_mask_of) (defBody s_is_mask_of) (defScope s_is_mask_of) [] [] (He.ga K "is_mask_of") fd := T.c.t.d.def_ 26 (d := ds_is_mask_of) rfl
theorem Tp.k_is_mask_of : PySem.W.keepIn K (.ref (He.ga K "is_mask_of")) = true := let ⟨_, F⟩ := T.F_is_mask_of; F.kp
theorem Tp.F_are_patterns : ∃ fd, FunD K "are_patterns" "are_patterns" (defArgs s_are_patterns) (defBody s_are_patterns) (defScope s_are_patterns) [] [] (He.ga K "are_patterns") fd := T.c.t.d.def_ 27 (d := ds_are_patterns) rfl
theorem Tp.k_are_patterns : PySem.W.keepIn K (.ref (He.ga K "are_patterns")) = true := let ⟨_, F⟩ := T.F_are_patterns; F.kp
theorem Tp.F_signs_of : ∃ fd, FunD K "signs_of" "signs_of" (defArgs s_signs_of) (defBody s_signs_of) (defScope s_signs_of) [] [] (He.ga K "signs_of") fd := T.c.t.d.def_ 28 (d := ds_signs_of) rfl
theorem Tp.k_signs_of : PySem.W.keepIn K (.ref (He.ga K "signs_of")) = true := let ⟨_, F⟩ := T.F_signs_of; F.kp
theorem Tp.F_tree_of : ∃ fd, FunD K "tree_of" "tree_of" (defArgs s_tree_of) (defBody s_tree_of) (defScope s_tree_of) [] [] (He.ga K "tree_of") fd := T.c.t.d.def_ 29 (d := ds_tree_of) rfl
theorem Tp.k_tree_of : PySem.W.keepIn K (.ref (He.ga K "tree_of")) = true := let ⟨_, F⟩ := T.F_tree_of; F.kp
theorem Tp.F_told_heads : ∃ fd, FunD K "told_heads" "told_heads" (defArgs s_told_heads) (defBody s_told_heads) (defScope s_told_heads) [] [] (He.ga K "told_heads") fd := T.c.t.d.def_ 30 (d := ds_told_heads) rfl
theorem Tp.k_told_heads : PySem.W.keepIn K (.ref (He.ga K "told_heads")) = true := let ⟨_, F⟩ := T.F_told_heads; F.kp
theorem Tp.F_is_heads_of : ∃ fd, FunD K "is_heads_of" "is_heads_of" (defArgs s_is_heads_of) (defBody s_is_heads_of) (defScope s_is_heads_of) [] [] (He.ga K "is_heads_of") fd := T.c.t.d.def_ 31 (d := ds_is_heads_of) rfl
theorem Tp.k_is_heads_of : PySem.W.keepIn K (.ref (He.ga K "is_heads_of")) = true := let ⟨_, F⟩ := T.F_is_heads_of; F.kp
theorem Tp.F_check_heads : ∃ fd, FunD K "check_heads" "check_heads" (defArgs s_check_heads) (defBody s_check_heads) (defScope s_check_heads) [] [] (He.ga K "check_heads") fd := T.c.t.d.def_ 32 (d := ds_check_heads) rfl
theorem Tp.k_check_heads : PySem.W.keepIn K (.ref (He.ga K "check_heads")) = true := let ⟨_, F⟩ := T.F_check_heads; F.kp
theorem Tp.F_check_head : ∃ fd, FunD K "check_head" "check_head" (defArgs s_check_head) (defBody s_check_head) (defScope s_check_head) [] [] (He.ga K "check_head") fd := T.c.t.d.def_ 33 (d := ds_check_head) rfl
theorem Tp.k_check_head : PySem.W.keepIn K (.ref (He.ga K "check_head")) = true := let ⟨_, F⟩ := T.F_check_head; F.kp
theorem Tp.F_is_heads : ∃ fd, FunD K "is_heads" "is_heads" (defArgs s_is_heads) (defBody s_is_heads) (defScope s_is_heads) [] [] (He.ga K "is_heads") fd := T.c.t.d.def_ 34 (d := ds_is_heads) rfl
theorem Tp.k_is_heads : PySem.W.keepIn K (.ref (He.ga K "is_heads")) = true := let ⟨_, F⟩ := T.F_is_heads; F.kp
theorem Tp.F_plain : ∃ fd, FunD K "plain" "plain" (defArgs s_plain) (defBody s_plain) (defScope s_plain) [] [] (He.ga K "plain") fd := T.c.t.d.def_ 35 (d := ds_plain) rfl
theorem Tp.k_plain : PySem.W.keepIn K (.ref (He.ga K "plain")) = true := let ⟨_, F⟩ := T.F_plain; F.kp
theorem Tp.F_fits : ∃ fd, FunD K "fits" "fits" (defArgs s_fits) (defBody s_fits) (defScope s_fits) [] [] (He.ga K "fits") fd := T.c.t.d.def_ 36 (d := ds_fits) rfl
theorem Tp.k_fits : PySem.W.keepIn K (.ref (He.ga K "fits")) = true := let ⟨_, F⟩ := T.F_fits; F.kp
theorem Tp.F_has_head : ∃ fd, FunD K "has_head" "has_head" (defArgs s_has_head) (defBody s_has_head) (defScope s_has_head) [] [] (He.ga K "has_head") fd := T.c.t.d.def_ 37 (d := ds_has_head) rfl
theorem Tp.k_has_head : PySem.W.keepIn K (.ref (He.ga K "has_head")) = true := let ⟨_, F⟩ := T.F_has_head; F.kp
theorem Tp.F_both : ∃ fd, FunD K "both" "both" (defArgs s_both) (defBody s_both) (defScope s_both) [] [] (He.ga K "both") fd := T.c.t.d.def_ 38 (d := ds_both) rfl
theorem Tp.k_both : PySem.W.keepIn K (.ref (He.ga K "both")) = true := let ⟨_, F⟩ := T.F_both; F.kp
theorem Tp.F_either : ∃ fd, FunD K "either" "either" (defArgs s_either) (defBody s_either) (defScope s_either) [] [] (He.ga K "either") fd := T.c.t.d.def_ 39 (d := ds_either) rfl
theorem Tp.k_either : PySem.W.keepIn K (.ref (He.ga K "either")) = true := let ⟨_, F⟩ := T.F_either; F.kp
theorem Tp.F_others : ∃ fd, FunD K "others" "others" (defArgs s_others) (defBody s_others) (defScope s_others) [] [] (He.ga K "others") fd := T.c.t.d.def_ 40 (d := ds_others) rfl
theorem Tp.k_others : PySem.W.keepIn K (.ref (He.ga K "others")) = true := let ⟨_, F⟩ := T.F_others; F.kp
theorem Tp.F_how_many : ∃ fd, FunD K "how_many" "how_many" (defArgs s_how_many) (defBody s_how_many) (defScope s_how_many) [] [] (He.ga K "how_many") fd := T.c.t.d.def_ 41 (d := ds_how_many) rfl
theorem Tp.k_how_many : PySem.W.keepIn K (.ref (He.ga K "how_many")) = true := let ⟨_, F⟩ := T.F_how_many; F.kp
theorem Tp.F_head_of : ∃ fd, FunD K "head_of" "head_of" (defArgs s_head_of) (defBody s_head_of) (defScope s_head_of) [] [] (He.ga K "head_of") fd := T.c.t.d.def_ 42 (d := ds_head_of) rfl
theorem Tp.k_head_of : PySem.W.keepIn K (.ref (He.ga K "head_of")) = true := let ⟨_, F⟩ := T.F_head_of; F.kp
theorem Tp.F_least_head : ∃ fd, FunD K "least_head" "least_head" (defArgs s_least_head) (defBody s_least_head) (defScope s_least_head) [] [] (He.ga K "least_head") fd := T.c.t.d.def_ 43 (d := ds_least_head) rfl
theorem Tp.k_least_head : PySem.W.keepIn K (.ref (He.ga K "least_head")) = true := let ⟨_, F⟩ := T.F_least_head; F.kp
theorem Tp.F_check_mask : ∃ fd, FunD K "check_mask" "check_mask" (defArgs s_check_mask) (defBody s_check_mask) (defScope s_check_mask) [] [] (He.ga K "check_mask") fd := T.c.t.d.def_ 44 (d := ds_check_mask) rfl
theorem Tp.k_check_mask : PySem.W.keepIn K (.ref (He.ga K "check_mask")) = true := let ⟨_, F⟩ := T.F_check_mask; F.kp
theorem Tp.F_put_into : ∃ fd, FunD K "put_into" "put_into" (defArgs s_put_into) (defBody s_put_into) (defScope s_put_into) [] [] (He.ga K "put_into") fd := T.c.t.d.def_ 45 (d := ds_put_into) rfl
theorem Tp.k_put_into : PySem.W.keepIn K (.ref (He.ga K "put_into")) = true := let ⟨_, F⟩ := T.F_put_into; F.kp
theorem Tp.F_put_before : ∃ fd, FunD K "put_before" "put_before" (defArgs s_put_before) (defBody s_put_before) (defScope s_put_before) [] [] (He.ga K "put_before") fd := T.c.t.d.def_ 46 (d := ds_put_before) rfl
theorem Tp.k_put_before : PySem.W.keepIn K (.ref (He.ga K "put_before")) = true := let ⟨_, F⟩ := T.F_put_before; F.kp
theorem Tp.F_law_take : ∃ fd, FunD K "_law_take" "_law_take" (defArgs s_law_take) (defBody s_law_take) (defScope s_law_take) [] [] (He.ga K "_law_take") fd := T.c.t.d.def_ 47 (d := ds_law_take) rfl
theorem Tp.k_law_take : PySem.W.keepIn K (.ref (He.ga K "_law_take")) = true := let ⟨_, F⟩ := T.F_law_take; F.kp
theorem Tp.F_law_of : ∃ fd, FunD K "_law_of" "_law_of" (defArgs s_law_of) (defBody s_law_of) (defScope s_law_of) [] [] (He.ga K "_law_of") fd := T.c.t.d.def_ 48 (d := ds_law_of) rfl
theorem Tp.k_law_of : PySem.W.keepIn K (.ref (He.ga K "_law_of")) = true := let ⟨_, F⟩ := T.F_law_of; F.kp
theorem Tp.F_law_row : ∃ fd, FunD K "_law_row" "_law_row" (defArgs s_law_row) (defBody s_law_row) (defScope s_law_row) [] [] (He.ga K "_law_row") fd := T.c.t.d.def_ 49 (d := ds_law_row) rfl
theorem Tp.k_law_row : PySem.W.keepIn K (.ref (He.ga K "_law_row")) = true := let ⟨_, F⟩ := T.F_law_row; F.kp
theorem Tp.F_law_patterns : ∃ fd, FunD K "_law_patterns" "_law_patterns" (defArgs s_law_patterns) (defBody s_law_patterns) (defScope s_law_patterns) [] [] (He.ga K "_law_patterns") fd := T.c.t.d.def_ 50 (d := ds_law_patterns) rfl
theorem Tp.k_law_patterns : PySem.W.keepIn K (.ref (He.ga K "_law_patterns")) = true := let ⟨_, F⟩ := T.F_law_patterns; F.kp
theorem Tp.F_law_put : ∃ fd, FunD K "_law_put" "_law_put" (defArgs s_law_put) (defBody s_law_put) (defScope s_law_put) [] [] (He.ga K "_law_put") fd := T.c.t.d.def_ 51 (d := ds_law_put) rfl
theorem Tp.k_law_put : PySem.W.keepIn K (.ref (He.ga K "_law_put")) = true := let ⟨_, F⟩ := T.F_law_put; F.kp
theorem Tp.F_law_pot : ∃ fd, FunD K "_law_pot" "_law_pot" (defArgs s_law_pot) (defBody s_law_pot) (defScope s_law_pot) [] [] (He.ga K "_law_pot") fd := T.c.t.d.def_ 52 (d := ds_law_pot) rfl
theorem Tp.k_law_pot : PySem.W.keepIn K (.ref (He.ga K "_law_pot")) = true := let ⟨_, F⟩ := T.F_law_pot; F.kp
theorem Tp.F_law_heard : ∃ fd, FunD K "_law_heard" "_law_heard" (defArgs s_law_heard) (defBody s_law_heard) (defScope s_law_heard) [] [] (He.ga K "_law_heard") fd := T.c.t.d.def_ 53 (d := ds_law_heard) rfl
theorem Tp.k_law_heard : PySem.W.keepIn K (.ref (He.ga K "_law_heard")) = true := let ⟨_, F⟩ := T.F_law_heard; F.kp
theorem Tp.F_law_right : ∃ fd, FunD K "_law_right" "_law_right" (defArgs s_law_right) (defBody s_law_right) (defScope s_law_right) [] [] (He.ga K "_law_right") fd := T.c.t.d.def_ 54 (d := ds_law_right) rfl
theorem Tp.k_law_right : PySem.W.keepIn K (.ref (He.ga K "_law_right")) = true := let ⟨_, F⟩ := T.F_law_right; F.kp
theorem Tp.F_law : ∃ fd, FunD K "law" "law" (defArgs s_law) (defBody s_law) (defScope s_law) [] [] (He.ga K "law") fd := T.c.t.d.def_ 55 (d := ds_law) rfl
theorem Tp.k_law : PySem.W.keepIn K (.ref (He.ga K "law")) = true := let ⟨_, F⟩ := T.F_law; F.kp
end
theorem sc_Trees_initI : FnScope ["self", "levels"] ["self", "levels"] (defScope s_Trees_initI) := ⟨rfl, rfl, rfl, by decide +kernel, rfl, by decide +kernel, by decide +kernel⟩
theorem sc_Trees_levels : FnScope ["self"] ["self"] (defScope s_Trees_levels) := ⟨rfl, rfl, rfl, by decide +kernel, rfl, by decide +kernel, by decide +kernel⟩
theorem sc_Trees_node : FnScope ["self", "level", "low", "high", "key"] ["self", "level", "low", "high"] (defScope s_Trees_node) := ⟨rfl, rfl, rfl, by decide +kernel, rfl, by decide +kernel, by decide +kernel⟩
theorem sc_Trees_halves : FnScope ["self", "tree", "level"] ["self", "tree", "level"] (defScope s_Trees_halves) := ⟨rfl, rfl, rfl, by decide +kernel, rfl, by decide +kernel, by decide +kernel⟩
theorem sc_Trees_both : FnScope ["self", "one", "other", "key", "level", "low", "high", "less", "more"] ["self", "one", "other"] (defScope s_Trees_both) := ⟨rfl, rfl, rfl, by decide +kernel, rfl, by decide +kernel, by decide +kernel⟩
theorem sc_Trees_rest : FnScope ["self", "tree", "key", "low", "high"] ["self", "tree"] (defScope s_Trees_rest) := ⟨rfl, rfl, rfl, by decide +kernel, rfl, by decide +kernel, by decide +kernel⟩
theorem sc_Trees_either : FnScope ["self", "one", "other", "key", "level", "low", "high", "less", "more"] ["self", "one", "other"] (defScope s_Trees_either) := ⟨rfl, rfl, rfl, by decide +kernel, rfl, by decide +kernel, by decide +kernel⟩
theorem sc_Trees_without : FnScope ["self", "one", "other"] ["self", "one", "other"] (defScope s_Trees_without) := ⟨rfl, rfl, rfl, by decide +kernel, rfl, by decide +kernel, by decide +kernel⟩
theorem sc_Trees_together : FnScope ["self", "some", "found", "tree"] ["self", "some"] (defScope s_Trees_together) := ⟨rfl, rfl, rfl, by decide +kernel, rfl, by decide +kernel, by decide +kernel⟩
theorem sc_Trees_row : FnScope ["self", "signs", "found", "level"] ["self", "signs"] (defScope s_Trees_row) := ⟨rfl, rfl, rfl, by decide +kernel, rfl, by decide +kernel, by decide +kernel⟩
theorem sc_Trees_freed : FnScope ["self", "tree", "levels", "key", "level", "its", "below", "rest", "low", "high"] ["self", "tree", "levels"] (defScope s_Trees_freed) := ⟨rfl, rfl, rfl, by decide +kernel, rfl, by decide +kernel, by decide +kernel⟩
theorem sc_Trees_put : FnScope ["self", "tree", "signs"] ["self", "tree", "signs"] (defScope s_Trees_put) := ⟨rfl, rfl, rfl, by decide +kernel, rfl, by decide +kernel, by decide +kernel⟩
theorem sc_Trees_put_back : FnScope ["self", "tree", "signs"] ["self", "tree", "signs"] (defScope s_Trees_put_back) := ⟨rfl, rfl, rfl, by decide +kernel, rfl, by decide +kernel, by decide +kernel⟩
theorem sc_Trees_many : FnScope ["self", "tree", "counts", "own", "level", "total", "half", "many", "far"] ["self", "tree"] (defScope s_Trees_many) := ⟨rfl, rfl, rfl, by decide +kernel, rfl, by decide +kernel, by decide +kernel⟩
theorem sc_Trees_below : FnScope ["self", "tree", "found", "left", "own"] ["self", "tree"] (defScope s_Trees_below) := ⟨rfl, rfl, rfl, by decide +kernel, rfl, by decide +kernel, by decide +kernel⟩
theorem sc_Trees_many_parts : FnScope ["self", "tree", "counts", "own"] ["self", "tree"] (defScope s_Trees_many_parts) := ⟨rfl, rfl, rfl, by decide +kernel, rfl, by decide +kernel, by decide +kernel⟩
theorem sc_Trees_first : FnScope ["self", "tree", "found", "level", "low", "high"] ["self", "tree"] (defScope s_Trees_first) := ⟨rfl, rfl, rfl, by decide +kernel, rfl, by decide +kernel, by decide +kernel⟩
theorem sc_Trees_has : FnScope ["self", "tree", "signs", "level", "sign"] ["self", "tree", "signs"] (defScope s_Trees_has) := ⟨rfl, rfl, rfl, by decide +kernel, rfl, by decide +kernel, by decide +kernel⟩
theorem sc_Trees_parts : FnScope ["self", "tree", "found", "left", "own", "signs", "low", "high"] ["self", "tree"] (defScope s_Trees_parts) := ⟨rfl, rfl, rfl, by decide +kernel, rfl, by decide +kernel, by decide +kernel⟩
theorem sc_doubled : FnScope ["times", "found", "lap"] ["times"] (defScope s_doubled) := ⟨rfl, rfl, rfl, by decide +kernel, rfl, by decide +kernel, by decide +kernel⟩
theorem sc_is_integer : FnScope ["value"] ["value"] (defScope s_is_integer) := ⟨rfl, rfl, rfl, by decide +kernel, rfl, by decide +kernel, by decide +kernel⟩
theorem sc_is_between : FnScope ["value", "least", "most"] ["value", "least", "most"] (defScope s_is_between) := ⟨rfl, rfl, rfl, by decide +kernel, rfl, by decide +kernel, by decide +kernel⟩
theorem sc_check_width : FnScope ["width"] ["width"] (defScope s_check_width) := ⟨rfl, rfl, rfl, by decide +kernel, rfl, by decide +kernel, by decide +kernel⟩
theorem sc_is_row : FnScope ["width", "value", "signs", "sign"] ["width", "value", "signs"] (defScope s_is_row) := ⟨rfl, rfl, rfl, by decide +kernel, rfl, by decide +kernel, by decide +kernel⟩
theorem sc_is_head_of : FnScope ["width", "value"] ["width", "value"] (defScope s_is_head_of) := ⟨rfl, rfl, rfl, by decide +kernel, rfl, by decide +kernel, by decide +kernel⟩
theorem sc_is_pattern_of : FnScope ["width", "value"] ["width", "value"] (defScope s_is_pattern_of) := ⟨rfl, rfl, rfl, by decide +kernel, rfl, by decide +kernel, by decide +kernel⟩
theorem sc_is_mask_of : FnScope ["width", "value"] ["width", "value"] (defScope s_is_mask_of) := ⟨rfl, rfl, rfl, by decide +kernel, rfl, by decide +kernel, by decide +kernel⟩
theorem sc_are_patterns : FnScope ["width", "value", "pattern"] ["width", "value"] (defScope s_are_patterns) := ⟨rfl, rfl, rfl, by decide +kernel, rfl, by decide +kernel, by decide +kernel⟩
theorem sc_signs_of : FnScope ["pattern", "found", "place", "sign"] ["pattern"] (defScope s_signs_of) := ⟨rfl, rfl, rfl, by decide +kernel, rfl, by decide +kernel, by decide +kernel⟩
theorem sc_tree_of : FnScope ["trees", "patterns", "pattern"] ["trees", "patterns"] (defScope s_tree_of) := ⟨rfl, rfl, rfl, by decide +kernel, rfl, by decide +kernel, by decide +kernel⟩
theorem sc_told_heads : FnScope ["trees", "tree", "found", "signs", "sign"] ["trees", "tree"] (defScope s_told_heads) := ⟨rfl, rfl, rfl, by decide +kernel, rfl, by decide +kernel, by decide +kernel⟩
theorem sc_is_heads_of : FnScope ["width", "value", "trees", "tree"] ["width", "value"] (defScope s_is_heads_of) := ⟨rfl, rfl, rfl, by decide +kernel, rfl, by decide +kernel, by decide +kernel⟩
theorem sc_check_heads : FnScope ["width", "heads"] ["width", "heads"] (defScope s_check_heads) := ⟨rfl, rfl, rfl, by decide +kernel, rfl, by decide +kernel, by decide +kernel⟩
theorem sc_check_head : FnScope ["width", "head"] ["width", "head"] (defScope s_check_head) := ⟨rfl, rfl, rfl, by decide +kernel, rfl, by decide +kernel, by decide +kernel⟩
theorem sc_is_heads : FnScope ["width", "value"] ["width", "value"] (defScope s_is_heads) := ⟨rfl, rfl, rfl, by decide +kernel, rfl, by decide +kernel, by decide +kernel⟩
theorem sc_plain : FnScope ["width", "patterns", "trees"] ["width", "patterns"] (defScope s_plain) := ⟨rfl, rfl, rfl, by decide +kernel, rfl, by decide +kernel, by decide +kernel⟩
theorem sc_fits : FnScope ["head", "pattern", "sign", "its"] ["head", "pattern"] (defScope s_fits) := ⟨rfl, rfl, rfl, by decide +kernel, rfl, by decide +kernel, by decide +kernel⟩
theorem sc_has_head : FnScope ["width", "heads", "head", "pattern"] ["width", "heads", "head"] (defScope s_has_head) := ⟨rfl, rfl, rfl, by decide +kernel, rfl, by decide +kernel, by decide +kernel⟩
theorem sc_both : FnScope ["width", "one", "other", "trees"] ["width", "one", "other"] (defScope s_both) := ⟨rfl, rfl, rfl, by decide +kernel, rfl, by decide +kernel, by decide +kernel⟩
theorem sc_either : FnScope ["width", "one", "other", "trees"] ["width", "one", "other"] (defScope s_either) := ⟨rfl, rfl, rfl, by decide +kernel, rfl, by decide +kernel, by decide +kernel⟩
theorem sc_others : FnScope ["width", "heads", "trees"] ["width", "heads"] (defScope s_others) := ⟨rfl, rfl, rfl, by decide +kernel, rfl, by decide +kernel, by decide +kernel⟩
theorem sc_how_many : FnScope ["width", "heads", "trees"] ["width", "heads"] (defScope s_how_many) := ⟨rfl, rfl, rfl, by decide +kernel, rfl, by decide +kernel, by decide +kernel⟩
theorem sc_head_of : FnScope ["trees", "tree", "signs", "sign"] ["trees", "tree"] (defScope s_head_of) := ⟨rfl, rfl, rfl, by decide +kernel, rfl, by decide +kernel, by decide +kernel⟩
theorem sc_least_head : FnScope ["width", "heads", "trees"] ["width", "heads"] (defScope s_least_head) := ⟨rfl, rfl, rfl, by decide +kernel, rfl, by decide +kernel, by decide +kernel⟩
theorem sc_check_mask : FnScope ["width", "mask"] ["width", "mask"] (defScope s_check_mask) := ⟨rfl, rfl, rfl, by decide +kernel, rfl, by decide +kernel, by decide +kernel⟩
theorem sc_put_into : FnScope ["width", "heads", "mask", "trees"] ["width", "heads", "mask"] (defScope s_put_into) := ⟨rfl, rfl, rfl, by decide +kernel, rfl, by decide +kernel, by decide +kernel⟩
theorem sc_put_before : FnScope ["width", "heads", "mask", "trees"] ["width", "heads", "mask"] (defScope s_put_before) := ⟨rfl, rfl, rfl, by decide +kernel, rfl, by decide +kernel, by decide +kernel⟩
theorem sc_law_take : FnScope ["pot", "upto", "digit", "prime", "made"] ["pot", "upto"] (defScope s_law_take) := ⟨rfl, rfl, rfl, by decide +kernel, rfl, by decide +kernel, by decide +kernel⟩
theorem sc_law_of : FnScope ["pot", "some"] ["pot", "some"] (defScope s_law_of) := ⟨rfl, rfl, rfl, by decide +kernel, rfl, by decide +kernel, by decide +kernel⟩
theorem sc_law_row : FnScope ["pot", "width", "signs", "place"] ["pot", "width", "signs"] (defScope s_law_row) := ⟨rfl, rfl, rfl, by decide +kernel, rfl, by decide +kernel, by decide +kernel⟩
theorem sc_law_patterns : FnScope ["pot", "width", "most", "signs", "lap"] ["pot", "width", "most"] (defScope s_law_patterns) := ⟨rfl, rfl, rfl, by decide +kernel, rfl, by decide +kernel, by decide +kernel⟩
theorem sc_law_put : FnScope ["head", "mask", "sign", "its"] ["head", "mask"] (defScope s_law_put) := ⟨rfl, rfl, rfl, by decide +kernel, rfl, by decide +kernel, by decide +kernel⟩
theorem sc_law_pot : FnScope ["script", "place", "cell", "own", "small"] ["script", "place"] (defScope s_law_pot) := ⟨rfl, rfl, rfl, by decide +kernel, rfl, by decide +kernel, by decide +kernel⟩
theorem sc_law_heard : FnScope ["look", "caught", "told", "error"] ["look"] (defScope s_law_heard) := ⟨rfl, rfl, rfl, by decide +kernel, rfl, by decide +kernel, by decide +kernel⟩
theorem sc_law_right : FnScope ["pot", "width", "lap", "one", "two", "three", "heads", "rest", "sizes", "place", "mask", "there", "back", "again", "head"] ["pot"] (defScope s_law_right) := ⟨rfl, rfl, rfl, by decide +kernel, rfl, by decide +kernel, by decide +kernel⟩
theorem sc_law : FnScope ["script", "pot", "caught", "told"] ["script"] (defScope s_law) := ⟨rfl, rfl, rfl, by decide +kernel, rfl, by decide +kernel, by decide +kernel⟩
end Wv

end
section
/-! Sets of rows of signs as reduced ordered trees: plain mathematics, no program in sight. -/
namespace Wv
/-- a tree: an end, or a level with the trees for sign 0 and sign 1 -/
inductive BT where
  | leaf (b : Bool)
  | node (l : Nat) (lo hi : BT)
  deriving DecidableEq
abbrev Row := Nat → Bool
/-- a row with one sign set -/
def st (r : Row) (l : Nat) (b : Bool) : Row := fun j => if j = l then b else r j
theorem st_same (r : Row) (l : Nat) (b : Bool) : st r l b l = b := by simp [st]
theorem st_ne (r : Row) {l j : Nat} (b : Bool) (h : j ≠ l) : st r l b j = r j := by simp [st, h]
theorem st_self (r : Row) (l : Nat) : st r l (r l) = r := by
  funext j; unfold st; split
  · next h => rw [h]
  · rfl
theorem st_st (r : Row) (l : Nat) (b c : Bool) : st (st r l b) l c = st r l c := by
  funext j; unfold st; split <;> rfl
theorem st_comm (r : Row) {l m : Nat} (h : l ≠ m) (b c : Bool) : st (st r l b) m c = st (st r m c) l b := by
  funext j; unfold st
  by_cases h1 : j = m
  · have h2 : j ≠ l := fun e => h (e.symm.trans h1)
    simp [h1, Ne.symm h]
  · simp [h1]
namespace BT
def den : BT → Row → Bool
  | leaf b, _ => b
  | node l a b, r => if r l then den b r else den a r
def lev (L : Nat) : BT → Nat
  | leaf _ => L
  | node l _ _ => l
def Good (L : Nat) : BT → Prop
  | leaf _ => True
  | node l a b => l < L ∧ l < lev L a ∧ l < lev L b ∧ a ≠ b ∧ Good L a ∧ Good L b
def mk (l : Nat) (a b : BT) : BT := if a = b then a else node l a b
theorem lev_le {L : Nat} : ∀ {t : BT}, Good L t → lev L t ≤ L
  | leaf _, _ => Nat.le_refl _
  | node _ _ _, h => Nat.le_of_lt h.1
theorem den_mk (l : Nat) (a b : BT) (r : Row) : den (mk l a b) r = if r l then den b r else den a r := by
  unfold mk
  split
  · next h => subst h; simp
  · rfl
theorem good_mk {L l : Nat} {a b : BT} (hl : l < L) (ha : l < lev L a) (hb : l < lev L b) (ga : Good L a) (gb : Good L b) : Good L (mk l a b) := by
  unfold mk
  split
  · exact ga
  · next h => exact ⟨hl, ha, hb, h, ga, gb⟩
theorem lev_mk {L l m : Nat} {a b : BT} (h : m ≤ l) (ha : l < lev L a) : m ≤ lev L (mk l a b) := by
  unfold mk
  split
  · omega
  · exact h
/-- a function of rows that doesn't look at a place -/
def Ind (f : Row → Bool) (j : Nat) : Prop := ∀ r b, f (st r j b) = f r
theorem den_ind {L : Nat} : ∀ {t : BT} {j : Nat}, Good L t → j < lev L t → Ind (den t) j
  | leaf _, _, _, _ => fun _ _ => rfl
  | node l a b, j, g, h => by
    intro r c
    obtain ⟨_, h1, h2, _, g1, g2⟩ := g
    have hj : j < l := h
    show (if st r j c l then den b (st r j c) else den a (st r j c)) = if r l then den b r else den a r
    rw [st_ne r c (by omega : l ≠ j), den_ind g2 (by omega) r c, den_ind g1 (by omega) r c]
theorem den_indL {L : Nat} : ∀ {t : BT} {j : Nat}, Good L t → L ≤ j → Ind (den t) j
  | leaf _, _, _, _ => fun _ _ => rfl
  | node l a b, j, g, h => by
    intro r c
    obtain ⟨h0, h1, h2, _, g1, g2⟩ := g
    show (if st r j c l then den b (st r j c) else den a (st r j c)) = if r l then den b r else den a r
    rw [st_ne r c (by omega : l ≠ j), den_indL g2 h r c, den_indL g1 h r c]
theorem sub_den {L l : Nat} {a b : BT} (g : Good L (node l a b)) : (∀ r, den a r = den (node l a b) (st r l false)) ∧ ∀ r, den b r = den (node l a b) (st r l true) := by
  obtain ⟨_, h1, h2, _, g1, g2⟩ := g
  constructor
  · intro r
    show _ = if st r l false l then den b (st r l false) else den a (st r l false)
    rw [st_same, den_ind g1 h1]; rfl
  · intro r
    show _ = if st r l true l then den b (st r l true) else den a (st r l true)
    rw [st_same, den_ind g2 h2]; rfl
theorem good_leaf {L : Nat} {b : Bool} : Good L (leaf b) := trivial
/-- one set has one tree -/
theorem canon {L : Nat} : ∀ {t u : BT}, Good L t → Good L u → (∀ r, den t r = den u r) → t = u
  | leaf x, leaf y, _, _, h => by have := h fun _ => false; simp [den] at this; rw [this]
  | leaf x, node l a b, _, g, h => by
    obtain ⟨s1, s2⟩ := sub_den g
    have e : a = b := canon g.2.2.2.2.1 g.2.2.2.2.2 fun r => by rw [s1, s2, ← h, ← h]; rfl
    exact absurd e g.2.2.2.1
  | node l a b, leaf y, g, _, h => by
    obtain ⟨s1, s2⟩ := sub_den g
    have e : a = b := canon g.2.2.2.2.1 g.2.2.2.2.2 fun r => by rw [s1, s2, h, h]; rfl
    exact absurd e g.2.2.2.1
  | node l a b, node m c d, g, g', h => by
    obtain ⟨s1, s2⟩ := sub_den g
    obtain ⟨t1, t2⟩ := sub_den g'
    by_cases e : l = m
    · subst e
      have e1 : a = c := canon g.2.2.2.2.1 g'.2.2.2.2.1 fun r => by rw [s1, t1, h]
      have e2 : b = d := canon g.2.2.2.2.2 g'.2.2.2.2.2 fun r => by rw [s2, t2, h]
      rw [e1, e2]
    · rcases Nat.lt_or_gt_of_ne e with lt | gt
      · have hi : Ind (den (node m c d)) l := den_ind g' lt
        have e1 : a = b := canon g.2.2.2.2.1 g.2.2.2.2.2 fun r => by rw [s1, s2, h, h, hi, hi]
        exact absurd e1 g.2.2.2.1
      · have hi : Ind (den (node l a b)) m := den_ind g gt
        have e1 : c = d := canon g'.2.2.2.2.1 g'.2.2.2.2.2 fun r => by rw [t1, t2, ← h, ← h, hi, hi]
        exact absurd e1 g'.2.2.2.1
termination_by t u => sizeOf t + sizeOf u
/-- a set that doesn't look at the places up to l has a tree behind l -/
theorem lev_of_ind {L l : Nat} {t : BT} (g : Good L t) (hl : l < L) (h : ∀ j, j ≤ l → Ind (den t) j) : l < lev L t := by
  cases t with
  | leaf b => exact hl
  | node m a b =>
    show l < m
    rcases Nat.lt_or_ge l m with h1 | h1
    · exact h1
    · obtain ⟨s1, s2⟩ := sub_den g
      have e : a = b := canon g.2.2.2.2.1 g.2.2.2.2.2 fun r => by rw [s1, s2, h m h1, h m h1]
      exact absurd e g.2.2.2.1
/-- the tree of a set that looks at the places from l on, n of them -/
def cn : Nat → Nat → (Row → Bool) → BT
  | 0, _, f => leaf (f fun _ => false)
  | n + 1, l, f => mk l (cn n (l + 1) fun r => f (st r l false)) (cn n (l + 1) fun r => f (st r l true))
theorem cn_good {L : Nat} : ∀ (n l : Nat) (f : Row → Bool), l + n = L → Good L (cn n l f) ∧ l ≤ lev L (cn n l f)
  | 0, l, f, h => ⟨trivial, by show l ≤ L; omega⟩
  | n + 1, l, f, h => by
    obtain ⟨g1, h1⟩ := cn_good (L := L) n (l + 1) (fun r => f (st r l false)) (by omega)
    obtain ⟨g2, h2⟩ := cn_good (L := L) n (l + 1) (fun r => f (st r l true)) (by omega)
    exact ⟨good_mk (by omega) h1 h2 g1 g2, lev_mk (Nat.le_refl _) h1⟩
theorem const_of {f : Row → Bool} : (∀ j, Ind f j) → ∀ (n : Nat) (r r' : Row), (∀ j, n ≤ j → r j = r' j) → f r = f r'
  | _, 0, r, r', h => by rw [show r = r' from funext fun j => h j (Nat.zero_le _)]
  | hi, n + 1, r, r', h => by
    rw [← hi n r (r' n)]
    refine const_of hi n _ _ fun j hj => ?_
    unfold st
    split
    · next e => rw [e]
    · next e => exact h j (by omega)
/-- functions that look only at the places below L -/
def Loc (L : Nat) (f : Row → Bool) : Prop := ∀ r r', (∀ j, j < L → r j = r' j) → f r = f r'
theorem Loc.ind {L : Nat} {f : Row → Bool} (h : Loc L f) {j : Nat} (hj : L ≤ j) : Ind f j := fun r b => h _ _ fun i hi => st_ne r b (by omega)
theorem den_loc {L : Nat} : ∀ {t : BT}, Good L t → Loc L (den t)
  | leaf _, _ => fun _ _ _ => rfl
  | node l a b, g => by
    obtain ⟨h0, _, _, _, g1, g2⟩ := g
    intro r r' h
    show (if r l then den b r else den a r) = if r' l then den b r' else den a r'
    rw [h l h0, den_loc g1 r r' h, den_loc g2 r r' h]
theorem cn_den {L : Nat} : ∀ (n l : Nat) (f : Row → Bool), l + n = L → Loc L f → (∀ j, j < l → Ind f j) → ∀ r, den (cn n l f) r = f r
  | 0, l, f, h, hL, hi, r => by
    have e : l = L := by omega
    subst e
    have hall : ∀ j, Ind f j := fun j => (Nat.lt_or_ge j l).elim (fun q => hi j q) fun q => hL.ind q
    show f (fun _ => false) = f r
    have h1 := const_of hall l (fun _ => false) (fun j => if j < l then r j else false) (fun j hj => by rw [if_neg (Nat.not_lt.mpr hj)])
    rw [h1]
    exact hL _ _ fun j hj => by simp [hj]
  | n + 1, l, f, h, hL, hi, r => by
    have hb : ∀ b, Loc L (fun r => f (st r l b)) := fun b r r' h' => hL _ _ fun j hj => by
      unfold st; split
      · rfl
      · exact h' j hj
    have hb2 : ∀ b j, j < l + 1 → Ind (fun r => f (st r l b)) j := fun b j hj r c => by
      show f (st (st r j c) l b) = f (st r l b)
      by_cases e : j = l
      · subst e; rw [st_st]
      · rw [st_comm r e, hi j (by omega)]
    show den (mk l _ _) r = f r
    rw [den_mk, cn_den n (l + 1) _ (by omega) (hb true) (hb2 true), cn_den n (l + 1) _ (by omega) (hb false) (hb2 false)]
    cases e : r l with
    | true => show f (st r l true) = f r; rw [← e, st_self]
    | false => show f (st r l false) = f r; rw [← e, st_self]
/-- the tree over L levels of a set -/
def tr (L : Nat) (f : Row → Bool) : BT := cn L 0 f
theorem tr_good (L : Nat) (f : Row → Bool) : Good L (tr L f) := (cn_good L 0 f (by omega)).1
theorem tr_den {L : Nat} {f : Row → Bool} (h : Loc L f) (r : Row) : den (tr L f) r = f r := cn_den L 0 f (by omega) h (fun j hj => absurd hj (by omega)) r
theorem tr_eq {L : Nat} {t : BT} {f : Row → Bool} (g : Good L t) (h : ∀ r, den t r = f r) : t = tr L f := by
  have e : den t = f := funext h
  exact canon g (tr_good L f) fun r => by rw [tr_den (by rw [← e]; exact den_loc g), h]
theorem tr_of {L : Nat} {t : BT} (g : Good L t) : tr L (den t) = t := (tr_eq g fun _ => rfl).symm
theorem tr_mk {L l : Nat} {f : Row → Bool} (hl : l < L) (h : Loc L f) (hi : ∀ j, j < l → Ind f j) :
    tr L f = mk l (tr L fun r => f (st r l false)) (tr L fun r => f (st r l true)) := by
  have hb : ∀ b, Loc L (fun r => f (st r l b)) := fun b r r' h' => h _ _ fun j hj => by
    unfold st; split
    · rfl
    · exact h' j hj
  have hb2 : ∀ b j, j ≤ l → Ind (fun r => f (st r l b)) j := fun b j hj r c => by
    show f (st (st r j c) l b) = f (st r l b)
    by_cases e : j = l
    · subst e; rw [st_st]
    · rw [st_comm r e, hi j (by omega)]
  have hd : ∀ b, den (tr L fun r => f (st r l b)) = fun r => f (st r l b) := fun b => funext (tr_den (hb b))
  have hlv : ∀ b, l < lev L (tr L fun r => f (st r l b)) := fun b => lev_of_ind (tr_good _ _) hl fun j hj => by rw [hd]; exact hb2 b j hj
  refine (tr_eq (good_mk hl (hlv false) (hlv true) (tr_good _ _) (tr_good _ _)) fun r => ?_).symm
  rw [den_mk, tr_den (hb true), tr_den (hb false)]
  cases e : r l with
  | true => show f (st r l true) = f r; rw [← e, st_self]
  | false => show f (st r l false) = f r; rw [← e, st_self]
/-- the trees below a level -/
def half (l : Nat) (b : Bool) : BT → BT
  | leaf x => leaf x
  | node m x y => if m = l then (if b then y else x) else node m x y
theorem half_leaf (l : Nat) (b x : Bool) : half l b (leaf x) = leaf x := rfl
theorem half_node (l m : Nat) (b : Bool) (x y : BT) : half l b (node m x y) = if m = l then (if b then y else x) else node m x y := rfl
theorem half_den {L l : Nat} {t : BT} (g : Good L t) (h : l ≤ lev L t) (b : Bool) (r : Row) : den (half l b t) r = den t (st r l b) := by
  cases t with
  | leaf x => rfl
  | node m x y =>
    rw [half_node]
    by_cases e : m = l
    · subst e
      rw [if_pos rfl]
      obtain ⟨s1, s2⟩ := sub_den g
      cases b with
      | true => exact s2 r
      | false => exact s1 r
    · rw [if_neg e]
      have hlt : l < m := by
        have : l ≤ m := h
        omega
      exact (den_ind g hlt r b).symm
theorem half_good {L l : Nat} {t : BT} (g : Good L t) (b : Bool) : Good L (half l b t) := by
  cases t with
  | leaf x => exact g
  | node m x y =>
    rw [half_node]
    by_cases e : m = l
    · rw [if_pos e]
      cases b with
      | true => exact g.2.2.2.2.2
      | false => exact g.2.2.2.2.1
    · rw [if_neg e]; exact g
theorem half_lev {L l : Nat} {t : BT} (g : Good L t) (hL : l < L) (h : l ≤ lev L t) (b : Bool) : l < lev L (half l b t) := by
  cases t with
  | leaf x => exact hL
  | node m x y =>
    have h' : l ≤ m := h
    rw [half_node]
    by_cases e : m = l
    · rw [if_pos e]
      have h1 := g.2.1
      have h2 := g.2.2.1
      cases b with
      | true => show l < lev L y; omega
      | false => show l < lev L x; omega
    · rw [if_neg e]
      show l < m
      omega
/-! ### both, either, rest -/
theorem Loc.and {L : Nat} {f g : Row → Bool} (h : Loc L f) (k : Loc L g) : Loc L fun r => f r && g r := fun r r' e => by
  show (f r && g r) = (f r' && g r'); rw [h r r' e, k r r' e]
theorem Loc.or {L : Nat} {f g : Row → Bool} (h : Loc L f) (k : Loc L g) : Loc L fun r => f r || g r := fun r r' e => by
  show (f r || g r) = (f r' || g r'); rw [h r r' e, k r r' e]
theorem Loc.not {L : Nat} {f : Row → Bool} (h : Loc L f) : Loc L fun r => !f r := fun r r' e => by
  show (!f r) = !f r'; rw [h r r' e]
def conj (L : Nat) (a b : BT) : BT := tr L fun r => den a r && den b r
def disj (L : Nat) (a b : BT) : BT := tr L fun r => den a r || den b r
def neg (L : Nat) (a : BT) : BT := tr L fun r => !den a r
section
variable {L : Nat} {a b : BT}
theorem conj_good : Good L (conj L a b) := tr_good _ _
theorem disj_good : Good L (disj L a b) := tr_good _ _
theorem neg_good : Good L (neg L a) := tr_good _ _
theorem conj_den (ga : Good L a) (gb : Good L b) (r : Row) : den (conj L a b) r = (den a r && den b r) := tr_den ((den_loc ga).and (den_loc gb)) r
theorem disj_den (ga : Good L a) (gb : Good L b) (r : Row) : den (disj L a b) r = (den a r || den b r) := tr_den ((den_loc ga).or (den_loc gb)) r
theorem neg_den (ga : Good L a) (r : Row) : den (neg L a) r = !den a r := tr_den (den_loc ga).not r
theorem conj_comm (a b : BT) : conj L a b = conj L b a := by unfold conj; congr 1; funext r; rw [Bool.and_comm]
theorem disj_comm (a b : BT) : disj L a b = disj L b a := by unfold disj; congr 1; funext r; rw [Bool.or_comm]
theorem conj_nil_l : conj L (leaf false) b = leaf false := (tr_eq good_leaf fun r => by simp [den]).symm
theorem conj_nil_r : conj L a (leaf false) = leaf false := (tr_eq good_leaf fun r => by simp [den]).symm
theorem conj_all_l (gb : Good L b) : conj L (leaf true) b = b := (tr_eq gb fun r => by simp [den]).symm
theorem conj_all_r (ga : Good L a) : conj L a (leaf true) = a := (tr_eq ga fun r => by simp [den]).symm
theorem conj_self (ga : Good L a) : conj L a a = a := (tr_eq ga fun r => by simp).symm
theorem disj_all_l : disj L (leaf true) b = leaf true := (tr_eq good_leaf fun r => by simp [den]).symm
theorem disj_all_r : disj L a (leaf true) = leaf true := (tr_eq good_leaf fun r => by simp [den]).symm
theorem disj_nil_l (gb : Good L b) : disj L (leaf false) b = b := (tr_eq gb fun r => by simp [den]).symm
theorem disj_nil_r (ga : Good L a) : disj L a (leaf false) = a := (tr_eq ga fun r => by simp [den]).symm
theorem disj_self (ga : Good L a) : disj L a a = a := (tr_eq ga fun r => by simp).symm
theorem neg_leaf (x : Bool) : neg L (leaf x) = leaf (!x) := (tr_eq good_leaf fun r => by simp [den]).symm
theorem conj_step {l : Nat} (ga : Good L a) (gb : Good L b) (hl : l < L) (ha : l ≤ lev L a) (hb : l ≤ lev L b) :
    conj L a b = mk l (conj L (half l false a) (half l false b)) (conj L (half l true a) (half l true b)) := by
  have hloc := (den_loc ga).and (den_loc gb)
  unfold conj
  rw [tr_mk hl hloc fun j hj r c => by rw [den_ind ga (by omega), den_ind gb (by omega)]]
  congr 1
  · congr 1; funext r; rw [half_den ga ha, half_den gb hb]
  · congr 1; funext r; rw [half_den ga ha, half_den gb hb]
theorem disj_step {l : Nat} (ga : Good L a) (gb : Good L b) (hl : l < L) (ha : l ≤ lev L a) (hb : l ≤ lev L b) :
    disj L a b = mk l (disj L (half l false a) (half l false b)) (disj L (half l true a) (half l true b)) := by
  have hloc := (den_loc ga).or (den_loc gb)
  unfold disj
  rw [tr_mk hl hloc fun j hj r c => by rw [den_ind ga (by omega), den_ind gb (by omega)]]
  congr 1
  · congr 1; funext r; rw [half_den ga ha, half_den gb hb]
  · congr 1; funext r; rw [half_den ga ha, half_den gb hb]
theorem neg_step {l : Nat} (ga : Good L a) (hl : l < L) (ha : l ≤ lev L a) : neg L a = mk l (neg L (half l false a)) (neg L (half l true a)) := by
  unfold neg
  rw [tr_mk hl (den_loc ga).not fun j hj r c => by rw [den_ind ga (by omega)]]
  congr 1
  · congr 1; funext r; rw [half_den ga ha]
  · congr 1; funext r; rw [half_den ga ha]
theorem neg_node {l : Nat} {x y : BT} (g : Good L (node l x y)) : neg L (node l x y) = mk l (neg L x) (neg L y) := by
  have := neg_step (l := l) g g.1 (Nat.le_refl _)
  rw [half_node, half_node, if_pos rfl, if_pos rfl] at this
  exact this
theorem conj_lev {l : Nat} (ga : Good L a) (gb : Good L b) (hl : l < L) (ha : l < lev L a) (hb : l < lev L b) : l < lev L (conj L a b) :=
  lev_of_ind conj_good hl fun j hj r c => by rw [conj_den ga gb, conj_den ga gb, den_ind ga (by omega), den_ind gb (by omega)]
theorem disj_lev {l : Nat} (ga : Good L a) (gb : Good L b) (hl : l < L) (ha : l < lev L a) (hb : l < lev L b) : l < lev L (disj L a b) :=
  lev_of_ind disj_good hl fun j hj r c => by rw [disj_den ga gb, disj_den ga gb, den_ind ga (by omega), den_ind gb (by omega)]
theorem neg_lev {l : Nat} (ga : Good L a) (hl : l < L) (ha : l < lev L a) : l < lev L (neg L a) :=
  lev_of_ind neg_good hl fun j hj r c => by rw [neg_den ga, neg_den ga, den_ind ga (by omega)]
end
/-! ### signs freed, signs told -/
def ex (l : Nat) (f : Row → Bool) : Row → Bool := fun r => f (st r l false) || f (st r l true)
def exs (ls : List Nat) (f : Row → Bool) : Row → Bool := ls.foldr ex f
theorem exs_nil (f : Row → Bool) : exs [] f = f := rfl
theorem exs_cons (l : Nat) (ls : List Nat) (f : Row → Bool) : exs (l :: ls) f = ex l (exs ls f) := rfl
theorem ex_true {l : Nat} {f : Row → Bool} {r : Row} : ex l f r = true ↔ ∃ b, f (st r l b) = true := by
  unfold ex
  rw [Bool.or_eq_true]
  constructor
  · rintro (h | h)
    · exact ⟨_, h⟩
    · exact ⟨_, h⟩
  · rintro ⟨b, h⟩
    cases b with
    | false => exact .inl h
    | true => exact .inr h
theorem ex_ind {l : Nat} {f : Row → Bool} (h : Ind f l) : ex l f = f := by
  funext r; unfold ex; rw [h, h, Bool.or_self]
theorem Ind.ex {l j : Nat} {f : Row → Bool} (h : Ind f j) : Ind (ex l f) j := fun r b => by
  unfold BT.ex
  by_cases e : j = l
  · subst e; rw [st_st, st_st]
  · rw [st_comm r e, st_comm r e, h, h]
theorem Ind.ex_same {l : Nat} {f : Row → Bool} : Ind (BT.ex l f) l := fun r b => by unfold BT.ex; rw [st_st, st_st]
theorem Ind.exs {j : Nat} {f : Row → Bool} (h : Ind f j) : ∀ ls : List Nat, Ind (exs ls f) j
  | [] => h
  | _ :: ls => (Ind.exs h ls).ex
theorem Ind.exs_mem {j : Nat} {f : Row → Bool} : ∀ {ls : List Nat}, j ∈ ls → Ind (BT.exs ls f) j
  | l :: ls, h => by
    rcases List.mem_cons.mp h with e | h
    · subst e; exact Ind.ex_same
    · exact (Ind.exs_mem h).ex
theorem Loc.ex {L l : Nat} {f : Row → Bool} (h : Loc L f) : Loc L (ex l f) := fun r r' e => by
  have q : ∀ b, f (st r l b) = f (st r' l b) := fun b => h _ _ fun j hj => by
    unfold st; split
    · rfl
    · exact e j hj
  unfold BT.ex; rw [q, q]
theorem Loc.exs {L : Nat} {f : Row → Bool} (h : Loc L f) : ∀ ls : List Nat, Loc L (exs ls f)
  | [] => h
  | _ :: ls => (Loc.exs h ls).ex
theorem ex_comm (l m : Nat) (f : Row → Bool) : ex l (ex m f) = ex m (ex l f) := by
  by_cases e : l = m
  · rw [e]
  · funext r; unfold ex
    rw [st_comm r e, st_comm r e, st_comm r e, st_comm r e]
    simp only [Bool.or_assoc, Bool.or_left_comm]
/-- behind the levels that the tree doesn't look at -/
theorem exs_filter {f : Row → Bool} (p : Nat → Bool) : ∀ ls : List Nat, (∀ l ∈ ls, p l = false → Ind f l) → exs (ls.filter p) f = exs ls f
  | [], _ => rfl
  | l :: ls, h => by
    have ih := exs_filter p ls fun m hm => h m (List.mem_cons_of_mem _ hm)
    rw [List.filter_cons]
    by_cases e : p l = true
    · rw [if_pos e, exs_cons, exs_cons, ih]
    · have e' : p l = false := by simpa using e
      rw [if_neg e, exs_cons, ih, ex_ind ((h l List.mem_cons_self e').exs ls)]
theorem ex_ex (l : Nat) (f : Row → Bool) : ex l (ex l f) = ex l f := ex_ind Ind.ex_same
theorem ex_exs (l : Nat) (f : Row → Bool) : ∀ ls : List Nat, ex l (exs ls f) = exs ls (ex l f)
  | [] => rfl
  | m :: ls => by rw [exs_cons, exs_cons, ex_comm, ex_exs l f ls]
theorem exs_more {l : Nat} {f : Row → Bool} : ∀ {ls : List Nat}, l ∈ ls → exs ls f = exs ls (ex l f)
  | m :: ls, h => by
    rcases List.mem_cons.mp h with e | h
    · subst e; rw [exs_cons, exs_cons, ← ex_exs, ex_ex]
    · rw [exs_cons, exs_cons, exs_more h]
theorem exs_without {f : Row → Bool} {l : Nat} {ls : List Nat} (h : l ∈ ls) : exs ls f = ex l (exs (ls.filter fun m => decide (m ≠ l)) f) := by
  rw [exs_more h, ex_exs, exs_filter]
  intro m _ hm
  have e : m = l := by simpa using hm
  subst e
  exact Ind.ex_same
def freed (L : Nat) (t : BT) (ls : List Nat) : BT := tr L (exs ls (den t))
section
variable {L : Nat} {t : BT}
theorem freed_good {ls : List Nat} : Good L (freed L t ls) := tr_good _ _
theorem freed_den (g : Good L t) (ls : List Nat) (r : Row) : den (freed L t ls) r = exs ls (den t) r := tr_den ((den_loc g).exs ls) r
theorem freed_nil (g : Good L t) : freed L t [] = t := tr_of g
theorem freed_leaf (b : Bool) (ls : List Nat) : freed L (leaf b) ls = leaf b := by
  refine (tr_eq good_leaf fun r => ?_).symm
  have e : exs ls (den (leaf b)) = den (leaf b) := by
    induction ls with
    | nil => rfl
    | cons l ls ih => rw [exs_cons, ih, ex_ind fun _ _ => rfl]
  rw [e]
theorem freed_lev {l : Nat} {ls : List Nat} (g : Good L t) (hl : l < L) (h : l < lev L t) : l < lev L (freed L t ls) :=
  lev_of_ind freed_good hl fun j hj r c => by rw [freed_den g, freed_den g, (den_ind g (by omega)).exs ls]
theorem freed_filter (g : Good L t) (p : Nat → Bool) (ls : List Nat) (h : ∀ l ∈ ls, p l = false → l < lev L t) : freed L t (ls.filter p) = freed L t ls := by
  unfold freed
  rw [exs_filter p ls fun l hl hp => den_ind g (h l hl hp)]
/-- the step of a node: the levels behind its own -/
theorem freed_node {l : Nat} {x y : BT} (g : Good L (node l x y)) (ls : List Nat) :
    freed L (node l x y) ls = if l ∈ ls.filter (fun m => decide (l ≤ m)) then disj L (freed L x ((ls.filter fun m => decide (l ≤ m)).filter fun m => decide (m ≠ l))) (freed L y ((ls.filter fun m => decide (l ≤ m)).filter fun m => decide (m ≠ l)))
      else mk l (freed L x ((ls.filter fun m => decide (l ≤ m)).filter fun m => decide (m ≠ l))) (freed L y ((ls.filter fun m => decide (l ≤ m)).filter fun m => decide (m ≠ l))) := by
  obtain ⟨g0, g1, g2, g3, gx, gy⟩ := id g
  obtain ⟨s1, s2⟩ := sub_den g
  have e0 : freed L (node l x y) ls = freed L (node l x y) (ls.filter fun m => decide (l ≤ m)) := by
    refine (freed_filter g _ ls fun m _ hm => ?_).symm
    have : ¬ l ≤ m := by simpa using hm
    show m < l
    omega
  rw [e0]
  have h0 : ∀ m ∈ ls.filter (fun m => decide (l ≤ m)), l ≤ m := fun m hm => by simpa using (List.mem_filter.mp hm).2
  generalize ls.filter (fun m => decide (l ≤ m)) = ks at h0
  have hk : ∀ m ∈ ks.filter (fun m => decide (m ≠ l)), l < m := fun m hm => by
    obtain ⟨h1, h2⟩ := List.mem_filter.mp hm
    have h3 : m ≠ l := by simpa using h2
    have := h0 m h1
    omega
  have step : ∀ (js : List Nat) (b : Bool) (f : Row → Bool), (∀ m ∈ js, l < m) → ∀ r, exs js f (st r l b) = exs js (fun r => f (st r l b)) r := by
    intro js b f hj
    induction js with
    | nil => intro r; rfl
    | cons j js ih =>
      intro r
      have ih := ih fun m hm => hj m (List.mem_cons_of_mem _ hm)
      have hjl : l ≠ j := Nat.ne_of_lt (hj j List.mem_cons_self)
      rw [exs_cons, exs_cons]
      unfold BT.ex
      rw [st_comm r hjl, st_comm r hjl, ih, ih]
  have dx : den x = fun r => den (node l x y) (st r l false) := funext s1
  have dy : den y = fun r => den (node l x y) (st r l true) := funext s2
  by_cases hm : l ∈ ks
  · rw [if_pos hm]
    refine (tr_eq disj_good fun r => ?_).symm
    rw [disj_den freed_good freed_good, freed_den gx, freed_den gy, exs_without hm]
    show _ = (exs _ _ (st r l false) || exs _ _ (st r l true))
    rw [step _ _ _ hk, step _ _ _ hk, ← dx, ← dy]
  · rw [if_neg hm]
    have ek : ks.filter (fun m => decide (m ≠ l)) = ks := List.filter_eq_self.mpr fun m h => by
      have : m ≠ l := fun e => hm (e ▸ h)
      simpa using this
    rw [ek] at hk ⊢
    refine (tr_eq (good_mk g0 (freed_lev gx g0 g1) (freed_lev gy g0 g2) freed_good freed_good) fun r => ?_).symm
    rw [den_mk, freed_den gx, freed_den gy, dx, dy, ← step _ _ _ hk, ← step _ _ _ hk]
    cases e : r l with
    | true => rw [if_pos rfl]; conv => lhs; rw [← e, st_self]
    | false => rw [if_neg Bool.false_ne_true]; conv => lhs; rw [← e, st_self]
end
/-! ### patterns: 0, 1, or none for any -/
abbrev Pat := List (Option Bool)
/-- the signs that are told, by their places -/
def lits : Nat → Pat → List (Nat × Bool)
  | _, [] => []
  | i, none :: p => lits (i + 1) p
  | i, some b :: p => (i, b) :: lits (i + 1) p
def fit : Nat → Pat → Row → Bool
  | _, [], _ => true
  | i, none :: p, r => fit (i + 1) p r
  | i, some b :: p, r => (r i == b) && fit (i + 1) p r
/-- the signs that are told are put into the row -/
def over : Nat → Pat → Row → Row
  | _, [], r => r
  | i, none :: p, r => over (i + 1) p r
  | i, some b :: p, r => over (i + 1) p (st r i b)
theorem lits_ge : ∀ {p : Pat} {i : Nat} {x : Nat × Bool}, x ∈ lits i p → i ≤ x.1 ∧ x.1 < i + p.length
  | none :: p, i, x, h => by have := lits_ge (p := p) (i := i + 1) h; rw [List.length_cons]; omega
  | some b :: p, i, x, h => by
    rw [List.length_cons]
    rcases List.mem_cons.mp h with e | h
    · subst e; show i ≤ i ∧ i < _; omega
    · have := lits_ge (p := p) (i := i + 1) h; omega
theorem lits_sorted : ∀ (p : Pat) (i : Nat), (lits i p).Pairwise fun a b => a.1 < b.1
  | [], _ => .nil
  | none :: p, i => lits_sorted p (i + 1)
  | some b :: p, i => .cons (fun x hx => by have := (lits_ge hx).1; show i < x.1; omega) (lits_sorted p (i + 1))
/-- all rows that have the signs -/
def holdsAll (xs : List (Nat × Bool)) (r : Row) : Bool := xs.all fun x => r x.1 == x.2
theorem fit_lits : ∀ (p : Pat) (i : Nat) (r : Row), fit i p r = holdsAll (lits i p) r
  | [], _, _ => rfl
  | none :: p, i, r => fit_lits p (i + 1) r
  | some b :: p, i, r => by
    show ((r i == b) && fit (i + 1) p r) = ((r i == b) && holdsAll (lits (i + 1) p) r)
    rw [fit_lits p]
/-- the tree that row builds, from the last level on -/
def rowT (xs : List (Nat × Bool)) : BT := xs.foldr (fun x t => if x.2 then mk x.1 (leaf false) t else mk x.1 t (leaf false)) (leaf true)
theorem rowT_ok {L : Nat} : ∀ {xs : List (Nat × Bool)}, (xs.Pairwise fun a b => a.1 < b.1) → (∀ x ∈ xs, x.1 < L) →
    Good L (rowT xs) ∧ (∀ r, den (rowT xs) r = holdsAll xs r) ∧ ∀ m, m < L → (∀ x ∈ xs, m < x.1) → m < lev L (rowT xs)
  | [], _, _ => ⟨good_leaf, fun _ => rfl, fun m hm _ => hm⟩
  | (l, b) :: xs, hs, hL => by
    obtain ⟨h1, h2⟩ := List.pairwise_cons.mp hs
    obtain ⟨g, d, v⟩ := rowT_ok h2 fun x hx => hL x (List.mem_cons_of_mem _ hx)
    have hl : l < L := hL (l, b) List.mem_cons_self
    have hv := v l hl h1
    have e : rowT ((l, b) :: xs) = if b then mk l (leaf false) (rowT xs) else mk l (rowT xs) (leaf false) := rfl
    have eh : ∀ r, holdsAll ((l, b) :: xs) r = ((r l == b) && holdsAll xs r) := fun r => rfl
    rw [e]
    have gf : l < lev L (leaf false) := hl
    cases b with
    | true =>
      refine ⟨good_mk hl gf hv good_leaf g, fun r => ?_, fun m hm hx => ?_⟩
      · rw [eh]
        show den (mk l (leaf false) (rowT xs)) r = _
        rw [den_mk, d]
        cases r l <;> rfl
      · have hml : m < l := hx (l, true) List.mem_cons_self
        exact Nat.lt_of_lt_of_le hml (lev_mk (Nat.le_refl l) gf)
    | false =>
      refine ⟨good_mk hl hv gf g good_leaf, fun r => ?_, fun m hm hx => ?_⟩
      · rw [eh]
        show den (mk l (rowT xs) (leaf false)) r = _
        rw [den_mk, d]
        cases r l <;> simp [den]
      · have hml : m < l := hx (l, false) List.mem_cons_self
        exact Nat.lt_of_lt_of_le hml (lev_mk (Nat.le_refl l) hv)
theorem rowT_lits {L : Nat} {p : Pat} (h : p.length = L) : Good L (rowT (lits 0 p)) ∧ ∀ r, den (rowT (lits 0 p)) r = fit 0 p r := by
  obtain ⟨g, d, _⟩ := rowT_ok (L := L) (lits_sorted p 0) fun x hx => by have := (lits_ge hx).2; omega
  exact ⟨g, fun r => by rw [d, fit_lits]⟩
theorem over_ge : ∀ (p : Pat) (i : Nat) (r : Row) (j : Nat), j < i → over i p r j = r j
  | [], _, _, _, _ => rfl
  | none :: p, i, r, j, h => over_ge p (i + 1) r j (by omega)
  | some b :: p, i, r, j, h => by
    show over (i + 1) p (st r i b) j = r j
    rw [over_ge p (i + 1) _ j (by omega), st_ne r b (by omega)]
theorem over_st : ∀ (p : Pat) (i j : Nat) (b : Bool) (r : Row), j < i → over i p (st r j b) = st (over i p r) j b
  | [], _, _, _, _, _ => rfl
  | none :: p, i, j, b, r, h => over_st p (i + 1) j b r (by omega)
  | some c :: p, i, j, b, r, h => by
    show over (i + 1) p (st (st r j b) i c) = st (over (i + 1) p (st r i c)) j b
    rw [st_comm r (show j ≠ i by omega), over_st p (i + 1) j b _ (by omega)]
/-- what is put in stands there -/
theorem fit_over : ∀ (p : Pat) (i : Nat) (r : Row), fit i p (over i p r) = true
  | [], _, _ => rfl
  | none :: p, i, r => fit_over p (i + 1) r
  | some b :: p, i, r => by
    show ((over (i + 1) p (st r i b) i == b) && fit (i + 1) p (over (i + 1) p (st r i b))) = true
    rw [fit_over p, over_ge p (i + 1) _ i (by omega), st_same]; simp
theorem over_of_fit : ∀ (p : Pat) (i : Nat) (r : Row), fit i p r = true → over i p r = r
  | [], _, _, _ => rfl
  | none :: p, i, r, h => over_of_fit p (i + 1) r h
  | some b :: p, i, r, h => by
    obtain ⟨h1, h2⟩ := Bool.and_eq_true_iff.mp (show ((r i == b) && fit (i + 1) p r) = true from h)
    have e : r i = b := by simpa using h1
    show over (i + 1) p (st r i b) = r
    rw [← e, st_self]
    exact over_of_fit p (i + 1) r h2
theorem over_over (p : Pat) (i : Nat) (r : Row) : over i p (over i p r) = over i p r := over_of_fit p i _ (fit_over p i r)
def levs (p : Pat) : List Nat := (lits 0 p).map (·.1)
/-- some row that differs at the told signs alone -/
theorem exs_lits {f : Row → Bool} : ∀ (p : Pat) (i : Nat) (r : Row), exs ((lits i p).map (·.1)) f r = true ↔ ∃ r', f r' = true ∧ over i p r' = over i p r
  | [], _, r => ⟨fun h => ⟨r, h, rfl⟩, fun ⟨r', h, e⟩ => by
      have e' : r' = r := e
      rw [← e']; exact h⟩
  | none :: p, i, r => exs_lits p (i + 1) r
  | some b :: p, i, r => by
    show ex i (exs ((lits (i + 1) p).map (·.1)) f) r = true ↔ ∃ r', f r' = true ∧ over (i + 1) p (st r' i b) = over (i + 1) p (st r i b)
    rw [ex_true]
    constructor
    · rintro ⟨c, h⟩
      obtain ⟨r', h1, h2⟩ := (exs_lits p (i + 1) _).mp h
      refine ⟨r', h1, ?_⟩
      rw [over_st p (i + 1) i b r' (by omega), h2, ← over_st p (i + 1) i b _ (by omega), st_st]
    · rintro ⟨r', h1, h2⟩
      refine ⟨r' i, (exs_lits p (i + 1) _).mpr ⟨r', h1, ?_⟩⟩
      have e1 := over_st p (i + 1) i b r' (by omega)
      have e2 := over_st p (i + 1) i b r (by omega)
      rw [over_st p (i + 1) i (r' i) r (by omega)]
      have e3 : st (over (i + 1) p r') i b = st (over (i + 1) p r) i b := by rw [← e1, ← e2, h2]
      have e4 : st (st (over (i + 1) p r') i b) i (r' i) = st (st (over (i + 1) p r) i b) i (r' i) := by rw [e3]
      rw [st_st, st_st] at e4
      rw [← e4]
      have e5 : r' i = over (i + 1) p r' i := (over_ge p (i + 1) r' i (by omega)).symm
      rw [e5, st_self]
/-! ### masks put into sets, and back -/
def put (L : Nat) (t : BT) (m : Pat) : BT := conj L (freed L t (levs m)) (rowT (lits 0 m))
def putb (L : Nat) (t : BT) (m : Pat) : BT := freed L (conj L t (rowT (lits 0 m))) (levs m)
section
variable {L : Nat} {t : BT} {m : Pat}
theorem put_good : Good L (put L t m) := conj_good
theorem putb_good : Good L (putb L t m) := freed_good
theorem put_den (g : Good L t) (hm : m.length = L) (r : Row) : den (put L t m) r = true ↔ ∃ r', den t r' = true ∧ over 0 m r' = r := by
  obtain ⟨gr, dr⟩ := rowT_lits hm
  unfold put levs
  rw [conj_den freed_good gr, Bool.and_eq_true, dr, freed_den g, exs_lits]
  constructor
  · rintro ⟨⟨r', h1, h2⟩, h3⟩
    exact ⟨r', h1, by rw [h2, over_of_fit m 0 r h3]⟩
  · rintro ⟨r', h1, h2⟩
    subst h2
    exact ⟨⟨r', h1, (over_over m 0 r').symm⟩, fit_over m 0 r'⟩
theorem putb_den (g : Good L t) (hm : m.length = L) (r : Row) : den (putb L t m) r = den t (over 0 m r) := by
  obtain ⟨gr, dr⟩ := rowT_lits hm
  rw [Bool.eq_iff_iff]
  unfold putb levs
  rw [freed_den conj_good, exs_lits]
  constructor
  · rintro ⟨r', h1, h2⟩
    rw [conj_den g gr, Bool.and_eq_true, dr] at h1
    rw [← h2, over_of_fit m 0 r' h1.2]
    exact h1.1
  · intro h
    refine ⟨over 0 m r, ?_, over_over m 0 r⟩
    rw [conj_den g gr, dr, fit_over, Bool.and_true]
    exact h
end
/-! ### how many -/
def card : Nat → Nat → (Row → Bool) → Nat
  | 0, _, f => if f fun _ => false then 1 else 0
  | n + 1, l, f => card n (l + 1) (fun r => f (st r l false)) + card n (l + 1) fun r => f (st r l true)
theorem card_add : ∀ (n l : Nat) (f g : Row → Bool), card n l f + card n l g = card n l (fun r => f r && g r) + card n l fun r => f r || g r
  | 0, l, f, g => by
    have key : ∀ x y : Bool, ((if x then 1 else 0) + if y then 1 else 0 : Nat) = (if x && y then 1 else 0) + if x || y then 1 else 0 := by decide
    exact key (f fun _ => false) (g fun _ => false)
  | n + 1, l, f, g => by
    have h1 := card_add n (l + 1) (fun r => f (st r l false)) (fun r => g (st r l false))
    have h2 := card_add n (l + 1) (fun r => f (st r l true)) (fun r => g (st r l true))
    simp only [card]
    omega
def cnt (L : Nat) : BT → Nat
  | leaf b => if b then 1 else 0
  | node l a b => cnt L a * 2 ^ (lev L a - l - 1) + cnt L b * 2 ^ (lev L b - l - 1)
def many (L : Nat) (t : BT) : Nat := cnt L t * 2 ^ lev L t
theorem card_den {L : Nat} : ∀ (n l : Nat) (t : BT), l + n = L → Good L t → l ≤ lev L t → card n l (den t) = cnt L t * 2 ^ (lev L t - l)
  | 0, l, t, h, g, hl => by
    cases t with
    | leaf b =>
      show (if den (leaf b) _ then 1 else 0) = (if b then 1 else 0) * 2 ^ (L - l)
      rw [show L - l = 0 by omega]
      cases b <;> rfl
    | node m a b =>
      have h1 : m < L := g.1
      have h2 : l ≤ m := hl
      omega
  | n + 1, l, t, h, g, hl => by
    show card n (l + 1) (fun r => den t (st r l false)) + card n (l + 1) (fun r => den t (st r l true)) = _
    by_cases e : lev L t = l
    · cases t with
      | leaf b =>
        have h2 : L = l := e
        omega
      | node m a b =>
        have h2 : m = l := e
        subst h2
        obtain ⟨s1, s2⟩ := sub_den g
        rw [← (funext s1 : den a = _), ← (funext s2 : den b = _)]
        have g1 := g.2.1
        have g2 := g.2.2.1
        rw [card_den (L := L) n (m + 1) a (by omega) g.2.2.2.2.1 (by omega), card_den (L := L) n (m + 1) b (by omega) g.2.2.2.2.2 (by omega)]
        show _ = (cnt L a * 2 ^ (lev L a - m - 1) + cnt L b * 2 ^ (lev L b - m - 1)) * 2 ^ (m - m)
        rw [Nat.sub_self, Nat.pow_zero, Nat.mul_one]
        rfl
    · have hi : Ind (den t) l := den_ind g (by omega)
      rw [show (fun r => den t (st r l false)) = den t from funext fun r => hi r _, show (fun r => den t (st r l true)) = den t from funext fun r => hi r _,
        card_den (L := L) n (l + 1) t (by omega) g (by omega), show lev L t - l = (lev L t - (l + 1)) + 1 by omega, Nat.pow_succ, ← Nat.mul_assoc]
      omega
theorem many_card {L : Nat} {t : BT} (g : Good L t) : many L t = card L 0 (den t) := by
  rw [card_den (L := L) L 0 t (by omega) g (Nat.zero_le _)]
  rfl
theorem many_add {L : Nat} {a b : BT} (ga : Good L a) (gb : Good L b) : many L a + many L b = many L (conj L a b) + many L (disj L a b) := by
  rw [many_card ga, many_card gb, many_card conj_good, many_card disj_good, card_add, show den (conj L a b) = _ from funext (conj_den ga gb), show den (disj L a b) = _ from funext (disj_den ga gb)]
/-! ### the plain parts -/
def np : BT → Nat
  | leaf b => if b then 1 else 0
  | node _ a b => np a + np b
def pats : Nat → Nat → BT → List Pat
  | 0, _, t => if t = leaf false then [] else [[]]
  | n + 1, l, t => if t = leaf false then [] else if half l false t = half l true t then (pats n (l + 1) (half l false t)).map (none :: ·)
      else (pats n (l + 1) (half l false t)).map (some false :: ·) ++ (pats n (l + 1) (half l true t)).map (some true :: ·)
theorem pats_nil : ∀ (n l : Nat), pats n l (leaf false) = []
  | 0, _ => rfl
  | _ + 1, _ => rfl
theorem half_same {L l : Nat} {t : BT} (g : Good L t) : half l false t = half l true t ↔ lev L t ≠ l ∨ ∃ b, t = leaf b := by
  cases t with
  | leaf b => exact ⟨fun _ => .inr ⟨b, rfl⟩, fun _ => rfl⟩
  | node m a b =>
    rw [half_node, half_node]
    show _ ↔ m ≠ l ∨ _
    by_cases e : m = l
    · rw [if_pos e, if_pos e]
      constructor
      · intro h; exact absurd h g.2.2.2.1
      · rintro (h | ⟨_, h⟩)
        · exact absurd e h
        · cases h
    · rw [if_neg e, if_neg e]
      exact ⟨fun _ => .inl e, fun _ => rfl⟩
theorem half_ne {L l : Nat} {t : BT} (h : lev L t ≠ l ∨ ∃ b, t = leaf b) (b : Bool) : half l b t = t := by
  cases t with
  | leaf c => rfl
  | node m x y =>
    rw [half_node]
    rcases h with h | ⟨_, h⟩
    · exact if_neg h
    · cases h
theorem pats_len {L : Nat} : ∀ (n l : Nat) (t : BT), l + n = L → Good L t → l ≤ lev L t → (pats n l t).length = np t
  | 0, l, t, h, g, hl => by
    cases t with
    | leaf b => cases b <;> rfl
    | node m a b =>
      have h1 : m < L := g.1
      have h2 : l ≤ m := hl
      omega
  | n + 1, l, t, h, g, hl => by
    unfold pats
    by_cases e0 : t = leaf false
    · rw [if_pos e0, e0]; rfl
    · rw [if_neg e0]
      by_cases e : half l false t = half l true t
      · have e' := (half_same (l := l) g).mp e
        rw [if_pos e, List.length_map, half_ne e']
        refine pats_len n (l + 1) t (by omega) g ?_
        rcases e' with e' | ⟨b, rfl⟩
        · omega
        · show l + 1 ≤ L; omega
      · rw [if_neg e, List.length_append, List.length_map, List.length_map]
        cases t with
        | leaf b => exact absurd rfl e
        | node m a b =>
          by_cases em : m = l
          · subst em
            rw [half_node, half_node, if_pos rfl, if_pos rfl]
            have g1 := g.2.1
            have g2 := g.2.2.1
            show (pats n (m + 1) a).length + (pats n (m + 1) b).length = np a + np b
            rw [pats_len n (m + 1) a (by omega) g.2.2.2.2.1 (by omega), pats_len n (m + 1) b (by omega) g.2.2.2.2.2 (by omega)]
          · exact absurd ((half_same (l := l) g).mpr (.inl em)) e
theorem pats_width : ∀ (n l : Nat) (t : BT), ∀ p ∈ pats n l t, p.length = n
  | 0, l, t, p, h => by
    unfold pats at h
    split at h
    · cases h
    · rw [List.mem_singleton.mp h]; rfl
  | n + 1, l, t, p, h => by
    unfold pats at h
    split at h
    · cases h
    · split at h
      · obtain ⟨q, h1, rfl⟩ := List.mem_map.mp h
        rw [List.length_cons, pats_width n _ _ q h1]
      · rcases List.mem_append.mp h with h | h
        · obtain ⟨q, h1, rfl⟩ := List.mem_map.mp h
          rw [List.length_cons, pats_width n _ _ q h1]
        · obtain ⟨q, h1, rfl⟩ := List.mem_map.mp h
          rw [List.length_cons, pats_width n _ _ q h1]
theorem any_map_cons (o : Option Bool) (l : Nat) (r : Row) (ps : List Pat) : (ps.map (o :: ·)).any (fit l · r) = ((match o with | none => true | some b => r l == b) && ps.any (fit (l + 1) · r)) := by
  induction ps with
  | nil => cases o <;> simp
  | cons p ps ih =>
    rw [List.map_cons, List.any_cons, ih, List.any_cons]
    cases o with
    | none => show (fit (l + 1) p r || (true && _)) = (true && _); simp
    | some b => show (((r l == b) && fit (l + 1) p r) || _) = _; rw [Bool.and_or_distrib_left]
theorem pats_den {L : Nat} : ∀ (n l : Nat) (t : BT), l + n = L → Good L t → l ≤ lev L t → ∀ r, (pats n l t).any (fit l · r) = den t r
  | 0, l, t, h, g, hl, r => by
    cases t with
    | leaf b => cases b <;> rfl
    | node m a b =>
      have h1 : m < L := g.1
      have h2 : l ≤ m := hl
      omega
  | n + 1, l, t, h, g, hl, r => by
    unfold pats
    by_cases e0 : t = leaf false
    · rw [if_pos e0, e0]; rfl
    · rw [if_neg e0]
      have hlt : ∀ b, l + 1 ≤ lev L (half l b t) := fun b => half_lev g (by omega) hl b
      have hd : ∀ b, (pats n (l + 1) (half l b t)).any (fit (l + 1) · r) = den t (st r l b) := fun b => by
        rw [pats_den n (l + 1) _ (by omega) (half_good g b) (hlt b), half_den g hl]
      by_cases e : half l false t = half l true t
      · rw [if_pos e, any_map_cons, hd]
        have : den t (st r l true) = den t (st r l false) := by rw [← hd, ← hd, e]
        show (true && _) = _
        rw [Bool.true_and]
        cases q : r l with
        | true => rw [← this, ← q, st_self]
        | false => rw [← q, st_self]
      · rw [if_neg e, List.any_append, any_map_cons, any_map_cons, hd, hd]
        show (((r l == false) && _) || ((r l == true) && _)) = _
        cases q : r l with
        | true => simp only [beq_self_eq_true, Bool.true_and]; rw [show (true == false) = false from rfl, Bool.false_and, Bool.false_or, ← q, st_self]
        | false => simp only [beq_self_eq_true, Bool.true_and]; rw [show (false == true) = false from rfl, Bool.false_and, Bool.or_false, ← q, st_self]
/-- the tree of all rows that fit some of the patterns -/
def ofPats (L : Nat) (ps : List Pat) : BT := ps.foldl (fun t p => disj L t (rowT (lits 0 p))) (leaf false)
theorem foldl_pats {L : Nat} : ∀ (ps : List Pat) (t : BT), (∀ p ∈ ps, p.length = L) → Good L t →
    Good L (ps.foldl (fun t p => disj L t (rowT (lits 0 p))) t) ∧ ∀ r, den (ps.foldl (fun t p => disj L t (rowT (lits 0 p))) t) r = (den t r || ps.any (fit 0 · r))
  | [], t, _, g => ⟨g, fun r => by simp⟩
  | p :: ps, t, h, g => by
    obtain ⟨gr, dr⟩ := rowT_lits (h p List.mem_cons_self)
    obtain ⟨g', d⟩ := foldl_pats ps (disj L t (rowT (lits 0 p))) (fun q hq => h q (List.mem_cons_of_mem _ hq)) disj_good
    refine ⟨g', fun r => ?_⟩
    rw [List.foldl_cons, d, disj_den g gr, dr, List.any_cons, Bool.or_assoc]
theorem ofPats_good {L : Nat} {ps : List Pat} (h : ∀ p ∈ ps, p.length = L) : Good L (ofPats L ps) := (foldl_pats ps (leaf false) h good_leaf).1
theorem ofPats_den {L : Nat} {ps : List Pat} (h : ∀ p ∈ ps, p.length = L) (r : Row) : den (ofPats L ps) r = ps.any (fit 0 · r) := by
  have := (foldl_pats ps (leaf false) h good_leaf).2 r
  exact this.trans (by simp [den])
theorem ofPats_pats {L : Nat} {t : BT} (g : Good L t) : ofPats L (pats L 0 t) = t :=
  canon (ofPats_good (pats_width L 0 t)) g fun r => by rw [ofPats_den (pats_width L 0 t), pats_den (L := L) L 0 t (by omega) g (Nat.zero_le _)]
theorem pats_inj {L : Nat} {t u : BT} (g : Good L t) (g' : Good L u) (h : pats L 0 t = pats L 0 u) : t = u := by
  rw [← ofPats_pats g, h, ofPats_pats g']
theorem ofPats_rev {L : Nat} {ps : List Pat} (h : ∀ p ∈ ps, p.length = L) : ofPats L ps.reverse = ofPats L ps :=
  canon (ofPats_good fun p hp => h p (List.mem_reverse.mp hp)) (ofPats_good h) fun r => by
    rw [ofPats_den (fun p hp => h p (List.mem_reverse.mp hp)), ofPats_den h, List.any_reverse]
theorem pats_all : ∀ (n l : Nat), pats n l (leaf true) = [List.replicate n none]
  | 0, _ => rfl
  | n + 1, l => by
    unfold pats
    rw [if_neg (by simp), half_leaf, half_leaf, if_pos rfl, pats_all n (l + 1)]
    rfl
theorem pats_empty {L : Nat} {t : BT} (g : Good L t) : pats L 0 t = [] ↔ t = leaf false := by
  constructor
  · intro h
    exact pats_inj g good_leaf (by rw [h, pats_nil])
  · intro h; rw [h, pats_nil]
/-! ### the least row -/
def rowOf (h : List Bool) : Row := fun j => h.getD j false
def first : Nat → Nat → BT → List Bool
  | 0, _, _ => []
  | n + 1, l, t => if half l false t = leaf false then true :: first n (l + 1) (half l true t) else false :: first n (l + 1) (half l false t)
theorem first_len : ∀ (n l : Nat) (t : BT), (first n l t).length = n
  | 0, _, _ => rfl
  | n + 1, l, t => by
    unfold first
    split <;> rw [List.length_cons, first_len n]
/-- the row that has h from l on -/
def rowAt (l : Nat) (h : List Bool) : Row := fun j => h.getD (j - l) false
theorem rowAt_cons {L l : Nat} {b : Bool} {h : List Bool} {t : BT} (g : Good L t) (hl : l ≤ lev L t) : den t (rowAt l (b :: h)) = den t (st (rowAt (l + 1) h) l b) := by
  have ind : ∀ j, j < l → Ind (den t) j := fun j hj => den_ind g (by omega)
  have key : ∀ (n : Nat), n ≤ l → ∀ r r' : Row, (∀ j, n ≤ j → r j = r' j) → den t r = den t r' := by
    intro n
    induction n with
    | zero => intro _ r r' h; rw [show r = r' from funext fun j => h j (Nat.zero_le _)]
    | succ n ih =>
      intro hn r r' h
      rw [← ind n (by omega) r (r' n)]
      refine ih (by omega) _ _ fun j hj => ?_
      unfold st
      split
      · next e => rw [e]
      · exact h j (by omega)
  refine key l (Nat.le_refl _) _ _ fun j hj => ?_
  unfold rowAt st
  by_cases e : j = l
  · subst e; simp
  · rw [if_neg e, show j - l = (j - (l + 1)) + 1 by omega]; rfl
theorem first_in {L : Nat} : ∀ (n l : Nat) (t : BT), l + n = L → Good L t → l ≤ lev L t → t ≠ leaf false → den t (rowAt l (first n l t)) = true
  | 0, l, t, h, g, hl, hne => by
    cases t with
    | leaf b => cases b with
      | true => rfl
      | false => exact absurd rfl hne
    | node m a b =>
      have h1 : m < L := g.1
      have h2 : l ≤ m := hl
      omega
  | n + 1, l, t, h, g, hl, hne => by
    unfold first
    have hlt : ∀ b, l + 1 ≤ lev L (half l b t) := fun b => half_lev g (by omega) hl b
    by_cases e : half l false t = leaf false
    · rw [if_pos e, rowAt_cons g hl, ← half_den g hl]
      refine first_in n (l + 1) _ (by omega) (half_good g _) (hlt _) fun e2 => hne ?_
      refine canon g good_leaf fun r => ?_
      have h1 := half_den g hl false r
      have h2 := half_den g hl true r
      rw [e] at h1
      rw [e2] at h2
      cases q : r l with
      | true => rw [← q, st_self] at h2; exact h2.symm
      | false => rw [← q, st_self] at h1; exact h1.symm.trans (by rw [q])
    · rw [if_neg e, rowAt_cons g hl, ← half_den g hl]
      exact first_in n (l + 1) _ (by omega) (half_good g _) (hlt _) e
theorem first_row {L : Nat} {t : BT} (g : Good L t) (h : t ≠ leaf false) : den t (rowOf (first L 0 t)) = true := by
  have := first_in (L := L) L 0 t (by omega) g (Nat.zero_le _) h
  exact this
/-! ### the laws -/
section
variable {L : Nat} {a b c : BT} {m : Pat}
theorem law_morgan (ga : Good L a) (gb : Good L b) : neg L (conj L a b) = disj L (neg L a) (neg L b) :=
  canon neg_good disj_good fun r => by rw [neg_den conj_good, conj_den ga gb, disj_den neg_good neg_good, neg_den ga, neg_den gb, Bool.not_and]
theorem law_dist1 (ga : Good L a) (gb : Good L b) (gc : Good L c) : conj L a (disj L b c) = disj L (conj L a b) (conj L a c) :=
  canon conj_good disj_good fun r => by rw [conj_den ga disj_good, disj_den gb gc, disj_den conj_good conj_good, conj_den ga gb, conj_den ga gc, Bool.and_or_distrib_left]
theorem law_dist2 (ga : Good L a) (gb : Good L b) (gc : Good L c) : disj L a (conj L b c) = conj L (disj L a b) (disj L a c) :=
  canon disj_good conj_good fun r => by rw [disj_den ga conj_good, conj_den gb gc, conj_den disj_good disj_good, disj_den ga gb, disj_den ga gc, Bool.or_and_distrib_left]
theorem law_absorb (ga : Good L a) (gb : Good L b) : conj L a (disj L a b) = a :=
  canon conj_good ga fun r => by rw [conj_den ga disj_good, disj_den ga gb]; cases den a r <;> simp
theorem law_full (ga : Good L a) : disj L a (neg L a) = leaf true :=
  canon disj_good good_leaf fun r => by rw [disj_den ga neg_good, neg_den ga]; cases den a r <;> rfl
theorem law_put_put (ga : Good L a) (hm : m.length = L) : put L (put L a m) m = put L a m :=
  canon put_good put_good fun r => by
    rw [Bool.eq_iff_iff, put_den put_good hm, put_den ga hm]
    constructor
    · rintro ⟨r', h1, h2⟩
      obtain ⟨r2, h3, h4⟩ := (put_den ga hm r').mp h1
      exact ⟨r2, h3, by rw [h4, ← h2, ← h4, over_over]⟩
    · rintro ⟨r', h1, h2⟩
      exact ⟨r, (put_den ga hm r).mpr ⟨r', h1, h2⟩, by rw [← h2, over_over]⟩
theorem law_again (ga : Good L a) (hm : m.length = L) : conj L (put L (putb L a m) m) a = put L (putb L a m) m :=
  canon conj_good put_good fun r => by
    rw [conj_den put_good ga]
    cases q : den (put L (putb L a m) m) r with
    | false => rfl
    | true =>
      obtain ⟨r', h1, h2⟩ := (put_den putb_good hm r).mp q
      rw [putb_den ga hm, h2] at h1
      rw [h1]; rfl
theorem law_back (ga : Good L a) (hm : m.length = L) : conj L (putb L (put L a m) m) a = a :=
  canon conj_good ga fun r => by
    rw [conj_den putb_good ga, putb_den put_good hm]
    cases q : den a r with
    | false => rw [Bool.and_false]
    | true => rw [(put_den ga hm _).mpr ⟨r, q, rfl⟩]; rfl
theorem law_back2 (ga : Good L a) (hm : m.length = L) : putb L (putb L a m) m = putb L a m :=
  canon putb_good putb_good fun r => by rw [putb_den putb_good hm, putb_den ga hm, putb_den ga hm, over_over]
theorem law_put_or (ga : Good L a) (gb : Good L b) (hm : m.length = L) : put L (disj L a b) m = disj L (put L a m) (put L b m) :=
  canon put_good disj_good fun r => by
    rw [Bool.eq_iff_iff, put_den disj_good hm, disj_den put_good put_good, Bool.or_eq_true, put_den ga hm, put_den gb hm]
    constructor
    · rintro ⟨r', h1, h2⟩
      rw [disj_den ga gb, Bool.or_eq_true] at h1
      exact h1.elim (fun h => .inl ⟨r', h, h2⟩) fun h => .inr ⟨r', h, h2⟩
    · rintro (⟨r', h1, h2⟩ | ⟨r', h1, h2⟩)
      · exact ⟨r', by rw [disj_den ga gb, h1]; rfl, h2⟩
      · exact ⟨r', by rw [disj_den ga gb, h1, Bool.or_true], h2⟩
theorem law_not_back (ga : Good L a) (hm : m.length = L) : putb L (neg L a) m = neg L (putb L a m) :=
  canon putb_good neg_good fun r => by rw [putb_den neg_good hm, neg_den ga, neg_den putb_good, putb_den ga hm]
theorem lits_none : ∀ (n i : Nat), lits i (List.replicate n none) = []
  | 0, _ => rfl
  | n + 1, i => lits_none n (i + 1)
theorem put_none (ga : Good L a) (n : Nat) : put L a (List.replicate n none) = a := by
  unfold put levs
  rw [lits_none]
  show conj L (freed L a []) (leaf true) = a
  rw [freed_nil ga, conj_all_r ga]
end
end BT
end Wv

end
section
set_option maxRecDepth 100000
set_option maxHeartbeats 2000000
/-! The store of trees: an object of the class Trees as its trees, and as it lies in the heap. -/
namespace Wv
open PySem PySem.Spec PyProof.Rows L2
/-! ### the trees by their numbers: plain -/
structure Sto where
  ts : List BT
  ls : List Nat
  hs : List Nat
structure Sok (L : Nat) (S : Sto) : Prop where
  z : S.ts[0]? = some (.leaf false)
  o : S.ts[1]? = some (.leaf true)
  nd : S.ts.Nodup
  good : ∀ t ∈ S.ts, BT.Good L t
  ll : S.ls.length = S.ts.length
  lh : S.hs.length = S.ts.length
  ch : ∀ (i l : Nat) (a b : BT), S.ts[i]? = some (.node l a b) → ∃ j k, S.ls[i]? = some j ∧ S.hs[i]? = some k ∧ S.ts[j]? = some a ∧ S.ts[k]? = some b
def Ext (S S' : Sto) : Prop := ∀ (i : Nat) (t : BT), S.ts[i]? = some t → S'.ts[i]? = some t
theorem Ext.refl (S : Sto) : Ext S S := fun _ _ h => h
theorem Ext.trans {A B C : Sto} (h : Ext A B) (k : Ext B C) : Ext A C := fun i t q => k i t (h i t q)
theorem Sok.g {L : Nat} {S : Sto} (h : Sok L S) {i : Nat} {t : BT} (e : S.ts[i]? = some t) : BT.Good L t := h.good t (List.mem_of_getElem? e)
theorem Sok.ix {L : Nat} {S : Sto} (h : Sok L S) {i j : Nat} {t : BT} (e : S.ts[i]? = some t) (e' : S.ts[j]? = some t) : i = j := by
  have h1 := (List.getElem?_eq_some_iff.mp e).1
  exact (List.getElem?_inj h1 h.nd).mp (e.trans e'.symm)
theorem Sok.eq {L : Nat} {S : Sto} (h : Sok L S) {i j : Nat} {t u : BT} (e : S.ts[i]? = some t) (e' : S.ts[j]? = some u) : i = j ↔ t = u := by
  constructor
  · intro q; subst q; rw [e] at e'; exact Option.some.inj e'
  · intro q; subst q; exact h.ix e e'
theorem Sok.is0 {L : Nat} {S : Sto} (h : Sok L S) {i : Nat} {t : BT} (e : S.ts[i]? = some t) : i = 0 ↔ t = .leaf false := h.eq e h.z
theorem Sok.is1 {L : Nat} {S : Sto} (h : Sok L S) {i : Nat} {t : BT} (e : S.ts[i]? = some t) : i = 1 ↔ t = .leaf true := h.eq e h.o
def Sto.new : Sto := ⟨[.leaf false, .leaf true], [0, 0], [0, 0]⟩
theorem Sok.new (L : Nat) : Sok L Sto.new := by
  refine ⟨rfl, rfl, by decide, fun t ht => ?_, rfl, rfl, fun i l a b h => ?_⟩
  · simp only [Sto.new, List.mem_cons, List.not_mem_nil, or_false] at ht
    rcases ht with rfl | rfl <;> exact BT.good_leaf
  · match i, h with
    | 0, h => cases h
    | 1, h => cases h
    | i + 2, h => simp [Sto.new] at h
/-- one tree more -/
def Sto.add (S : Sto) (l i j : Nat) (t : BT) : Sto := ⟨S.ts ++ [t], S.ls ++ [i], S.hs ++ [j]⟩
theorem Ext.add (S : Sto) (l i j : Nat) (t : BT) : Ext S (S.add l i j t) := fun k u h => by
  show (S.ts ++ [t])[k]? = some u
  rw [List.getElem?_append_left (List.getElem?_eq_some_iff.mp h).1]
  exact h
theorem add_new (S : Sto) (l i j : Nat) (t : BT) : (S.add l i j t).ts[S.ts.length]? = some t := by
  show (S.ts ++ [t])[S.ts.length]? = some t
  simp
theorem get_snoc {α : Type} {l : List α} {x y : α} {i : Nat} (h : (l ++ [x])[i]? = some y) : l[i]? = some y ∨ (i = l.length ∧ y = x) := by
  rcases Nat.lt_or_ge i l.length with h1 | h1
  · rw [List.getElem?_append_left h1] at h
    exact .inl h
  · rw [List.getElem?_append_right h1] at h
    right
    have e : i - l.length = 0 := by
      rcases Nat.eq_zero_or_pos (i - l.length) with e | e
      · exact e
      · rw [List.getElem?_eq_none (by simp; omega)] at h; cases h
    rw [e] at h
    exact ⟨by omega, (Option.some.inj h).symm⟩
theorem Sok.add {L : Nat} {S : Sto} (h : Sok L S) {l i j : Nat} {a b : BT} (hi : S.ts[i]? = some a) (hj : S.ts[j]? = some b) (hg : BT.Good L (.node l a b)) (hn : BT.node l a b ∉ S.ts) : Sok L (S.add l i j (.node l a b)) := by
  have E := Ext.add S l i j (.node l a b)
  refine ⟨E _ _ h.z, E _ _ h.o, ?_, fun t ht => ?_, ?_, ?_, fun k m x y q => ?_⟩
  · exact List.nodup_append.mpr ⟨h.nd, by simp, fun x hx y hy => by
      have : y = .node l a b := by simpa using hy
      subst this
      exact fun z => hn (z ▸ hx)⟩
  · rcases List.mem_append.mp ht with ht | ht
    · exact h.good t ht
    · rw [List.mem_singleton.mp ht]; exact hg
  · show (S.ls ++ [i]).length = (S.ts ++ [_]).length
    rw [List.length_append, List.length_append, h.ll]; rfl
  · show (S.hs ++ [j]).length = (S.ts ++ [_]).length
    rw [List.length_append, List.length_append, h.lh]; rfl
  · rcases get_snoc q with q2 | ⟨rfl, q2⟩
    · obtain ⟨c, d, h1, h2, h3, h4⟩ := h.ch k m x y q2
      refine ⟨c, d, ?_, ?_, E _ _ h3, E _ _ h4⟩
      · show (S.ls ++ [i])[k]? = some c
        rw [List.getElem?_append_left (List.getElem?_eq_some_iff.mp h1).1, h1]
      · show (S.hs ++ [j])[k]? = some d
        rw [List.getElem?_append_left (List.getElem?_eq_some_iff.mp h2).1, h2]
    · injection q2 with w1 w2 w3
      subst w1 w2 w3
      refine ⟨i, j, ?_, ?_, E _ _ hi, E _ _ hj⟩
      · show (S.ls ++ [i])[S.ts.length]? = some i
        rw [← h.ll]; simp
      · show (S.hs ++ [j])[S.ts.length]? = some j
        rw [← h.lh]; simp
/-! ### what is known by keys -/
abbrev kNode (l i j : Nat) : List Key := [Sum.inl (l : Int), Sum.inl (i : Int), Sum.inl (j : Int)]
structure Kok (S : Sto) (kvs : List (List Key × V)) : Prop where
  to : ∀ (l i j : Nat) (a b : BT), S.ts[i]? = some a → S.ts[j]? = some b → ∀ v, valV kvs (kNode l i j) = some v → ∃ k : Nat, v = .int k ∧ S.ts[k]? = some (.node l a b)
  fro : ∀ (l i j : Nat) (a b : BT), S.ts[i]? = some a → S.ts[j]? = some b → .node l a b ∈ S.ts → (valV kvs (kNode l i j)).isSome = true
  old : ∀ (l i j : Nat), (valV kvs (kNode l i j)).isSome = true → i < S.ts.length ∧ j < S.ts.length
  len : kvs.length + 2 ≤ S.ts.length
theorem kNode_inj {l i j l' i' j' : Nat} (h : kNode l i j = kNode l' i' j') : l = l' ∧ i = i' ∧ j = j' := by
  simp only [kNode, List.cons.injEq, Sum.inl.injEq, and_true] at h
  omega
theorem Kok.new : Kok Sto.new [] := by
  refine ⟨fun l i j a b _ _ v h => ?_, fun l i j a b _ _ h => ?_, fun l i j h => ?_, Nat.le_refl _⟩
  · simp [valV] at h
  · simp [Sto.new] at h
  · simp [valV] at h
theorem Kok.add {L : Nat} {S : Sto} {kvs : List (List Key × V)} (h : Kok S kvs) (s : Sok L S) {l i j : Nat} {a b : BT} (hi : S.ts[i]? = some a) (hj : S.ts[j]? = some b) (hn : BT.node l a b ∉ S.ts) :
    Kok (S.add l i j (.node l a b)) (putK kvs (kNode l i j) (.int S.ts.length)) := by
  have E := Ext.add S l i j (.node l a b)
  have li := (List.getElem?_eq_some_iff.mp hi).1
  have lj := (List.getElem?_eq_some_iff.mp hj).1
  have lts : (S.add l i j (.node l a b)).ts.length = S.ts.length + 1 := by show (S.ts ++ [_]).length = _; simp
  have dn : ∀ {k : Nat} {t : BT}, k < S.ts.length → (S.add l i j (.node l a b)).ts[k]? = some t → S.ts[k]? = some t := fun {k t} hk q => by
    rw [show (S.add l i j (.node l a b)).ts = S.ts ++ [.node l a b] from rfl, List.getElem?_append_left hk] at q
    exact q
  have nosome : ∀ l' i' j', S.ts.length ≤ i' ∨ S.ts.length ≤ j' → valV kvs (kNode l' i' j') = none := fun l' i' j' hh => by
    cases q : valV kvs (kNode l' i' j') with
    | none => rfl
    | some v =>
      have := h.old l' i' j' (by rw [q]; rfl)
      omega
  refine ⟨fun l' i' j' x y hx hy v hv => ?_, fun l' i' j' x y hx hy hm => ?_, fun l' i' j' hv => ?_, ?_⟩
  · rw [valV_put] at hv
    split at hv
    · next e =>
      obtain ⟨rfl, rfl, rfl⟩ := kNode_inj e
      have ex : x = a := Option.some.inj ((dn li hx).symm.trans hi)
      have ey : y = b := Option.some.inj ((dn lj hy).symm.trans hj)
      subst ex ey
      exact ⟨S.ts.length, (Option.some.inj hv).symm, add_new S l' i' j' _⟩
    · have o := h.old l' i' j' (by rw [hv]; rfl)
      obtain ⟨k, e1, e2⟩ := h.to l' i' j' x y (dn o.1 hx) (dn o.2 hy) v hv
      exact ⟨k, e1, E _ _ e2⟩
  · rw [valV_put]
    split
    · rfl
    · next e =>
      have hm' : BT.node l' x y ∈ S.ts ++ [.node l a b] := hm
      rcases List.mem_append.mp hm' with hm | hm
      · -- its halves are older
        obtain ⟨k, hk⟩ := List.getElem?_of_mem hm
        obtain ⟨c, d, _, _, h3, h4⟩ := s.ch k l' x y hk
        have s' : (S.ts ++ [BT.node l a b]).Nodup := List.nodup_append.mpr ⟨s.nd, by simp, fun x hx y hy => by
          have : y = .node l a b := by simpa using hy
          subst this
          exact fun z => hn (z ▸ hx)⟩
        have e1 : i' = c := by
          have h1 := (List.getElem?_eq_some_iff.mp hx).1
          exact (List.getElem?_inj h1 s').mp (hx.trans (E _ _ h3).symm)
        have e2 : j' = d := by
          have h1 := (List.getElem?_eq_some_iff.mp hy).1
          exact (List.getElem?_inj h1 s').mp (hy.trans (E _ _ h4).symm)
        subst e1 e2
        exact h.fro l' i' j' x y h3 h4 hm
      · have em : BT.node l' x y = .node l a b := List.mem_singleton.mp hm
        injection em with m1 m2 m3
        subst m1 m2 m3
        exfalso
        refine e ?_
        have s' : (S.ts ++ [BT.node l' x y]).Nodup := List.nodup_append.mpr ⟨s.nd, by simp, fun u hu y' hy' => by
          have : y' = .node l' x y := by simpa using hy'
          subst this
          exact fun z => hn (z ▸ hu)⟩
        have e1 : i' = i := by
          have h1 := (List.getElem?_eq_some_iff.mp hx).1
          exact (List.getElem?_inj h1 s').mp (hx.trans (E _ _ hi).symm)
        have e2 : j' = j := by
          have h1 := (List.getElem?_eq_some_iff.mp hy).1
          exact (List.getElem?_inj h1 s').mp (hy.trans (E _ _ hj).symm)
        rw [e1, e2]
  · rw [lts]
    rw [valV_put] at hv
    split at hv
    · next e =>
      obtain ⟨rfl, rfl, rfl⟩ := kNode_inj e
      omega
    · have := h.old l' i' j' hv
      omega
  · have h1 := length_putK kvs (kNode l i j) (.int S.ts.length)
    have h2 := h.len
    rw [lts]
    omega
/-! ### what was told, by keys -/
abbrev kTwo (x : Str) (i j : Nat) : NestedKey := .tup [.text x, .num i, .num j]
abbrev kOne (x : Str) (i : Nat) : NestedKey := .tup [.text x, .num i]
def kNums (ls : List Nat) : NestedKey := .tup (ls.map fun (l : Nat) => NestedKey.num (l : Int))
abbrev kFree (i : Nat) (ls : List Nat) : NestedKey := .tup [.text "freed", .num i, kNums ls]
structure Mok (L : Nat) (S : Sto) (tk : List (NestedKey × V)) : Prop where
  both : ∀ (i j : Nat) (a b : BT), S.ts[i]? = some a → S.ts[j]? = some b → ∀ v, valV tk (kTwo "both" i j) = some v → ∃ k : Nat, v = .int k ∧ S.ts[k]? = some (BT.conj L a b)
  either : ∀ (i j : Nat) (a b : BT), S.ts[i]? = some a → S.ts[j]? = some b → ∀ v, valV tk (kTwo "either" i j) = some v → ∃ k : Nat, v = .int k ∧ S.ts[k]? = some (BT.disj L a b)
  rest : ∀ (i : Nat) (a : BT), S.ts[i]? = some a → ∀ v, valV tk (kOne "rest" i) = some v → ∃ k : Nat, v = .int k ∧ S.ts[k]? = some (BT.neg L a)
  freed : ∀ (i : Nat) (a : BT) (ls : List Nat), S.ts[i]? = some a → ∀ v, valV tk (kFree i ls) = some v → ∃ k : Nat, v = .int k ∧ S.ts[k]? = some (BT.freed L a ls)
  old : ∀ (x : Str) (i : Nat) (r : List NestedKey), (valV tk (.tup (.text x :: .num i :: r))).isSome = true → i < S.ts.length ∧ ∀ j : Nat, r = [.num j] → j < S.ts.length
theorem Mok.new (L : Nat) : Mok L Sto.new [] := ⟨fun _ _ _ _ _ _ v h => by simp [valV] at h, fun _ _ _ _ _ _ v h => by simp [valV] at h, fun _ _ _ v h => by simp [valV] at h, fun _ _ _ _ v h => by simp [valV] at h, fun _ _ _ h => by simp [valV] at h⟩
theorem Mok.ext {L : Nat} {S S' : Sto} {tk : List (NestedKey × V)} (h : Mok L S tk) (E : Ext S S') : Mok L S' tk := by
  have len : S.ts.length ≤ S'.ts.length := by
    rcases Nat.lt_or_ge S'.ts.length S.ts.length with q | q
    · have h1 : S.ts[S'.ts.length]? = some S.ts[S'.ts.length] := List.getElem?_eq_getElem q
      have h2 := E _ _ h1
      rw [List.getElem?_eq_none (Nat.le_refl _)] at h2
      cases h2
    · exact q
  have dn : ∀ {k : Nat} {t : BT}, k < S.ts.length → S'.ts[k]? = some t → S.ts[k]? = some t := fun {k t} hk q => by
    have h1 : S.ts[k]? = some S.ts[k] := List.getElem?_eq_getElem hk
    rw [h1, ← q, E _ _ h1]
  refine ⟨fun i j a b hi hj v hv => ?_, fun i j a b hi hj v hv => ?_, fun i a hi v hv => ?_, fun i a ls hi v hv => ?_, fun x i r hv => ?_⟩
  · obtain ⟨o1, o2⟩ := h.old "both" i [.num j] (by rw [hv]; rfl)
    obtain ⟨k, e1, e2⟩ := h.both i j a b (dn o1 hi) (dn (o2 j rfl) hj) v hv
    exact ⟨k, e1, E _ _ e2⟩
  · obtain ⟨o1, o2⟩ := h.old "either" i [.num j] (by rw [hv]; rfl)
    obtain ⟨k, e1, e2⟩ := h.either i j a b (dn o1 hi) (dn (o2 j rfl) hj) v hv
    exact ⟨k, e1, E _ _ e2⟩
  · obtain ⟨o1, _⟩ := h.old "rest" i [] (by rw [hv]; rfl)
    obtain ⟨k, e1, e2⟩ := h.rest i a (dn o1 hi) v hv
    exact ⟨k, e1, E _ _ e2⟩
  · obtain ⟨o1, _⟩ := h.old "freed" i [kNums ls] (by rw [hv]; rfl)
    obtain ⟨k, e1, e2⟩ := h.freed i a ls (dn o1 hi) v hv
    exact ⟨k, e1, E _ _ e2⟩
  · obtain ⟨o1, o2⟩ := h.old x i r hv
    exact ⟨by omega, fun j hj => by have := o2 j hj; omega⟩
/-- an answer more: what is right by itself -/
theorem Mok.put {L : Nat} {S : Sto} {tk : List (NestedKey × V)} (h : Mok L S tk) {x : Str} {i : Nat} {r : List NestedKey} {v : V} (hi : i < S.ts.length) (hr : ∀ j : Nat, r = [.num j] → j < S.ts.length)
    (hb : ∀ (j : Nat) (a b : BT), x = "both" → r = [.num j] → S.ts[i]? = some a → S.ts[j]? = some b → ∃ k : Nat, v = .int k ∧ S.ts[k]? = some (BT.conj L a b))
    (he : ∀ (j : Nat) (a b : BT), x = "either" → r = [.num j] → S.ts[i]? = some a → S.ts[j]? = some b → ∃ k : Nat, v = .int k ∧ S.ts[k]? = some (BT.disj L a b))
    (hn : ∀ a : BT, x = "rest" → r = [] → S.ts[i]? = some a → ∃ k : Nat, v = .int k ∧ S.ts[k]? = some (BT.neg L a))
    (hf : ∀ (a : BT) (ls : List Nat), x = "freed" → r = [kNums ls] → S.ts[i]? = some a → ∃ k : Nat, v = .int k ∧ S.ts[k]? = some (BT.freed L a ls)) :
    Mok L S (putK tk (.tup (.text x :: .num i :: r)) v) := by
  have inj : ∀ {x' : Str} {i' : Nat} {r' : List NestedKey}, NestedKey.tup (.text x' :: .num i' :: r') = .tup (.text x :: .num i :: r) → x = x' ∧ i = i' ∧ r = r' := fun {x' i' r'} e => by
    injection e with e
    injection e with e1 e2
    injection e2 with e2 e3
    injection e1 with e1
    injection e2 with e2
    exact ⟨e1.symm, by omega, e3.symm⟩
  refine ⟨fun i' j' a b h1 h2 u hu => ?_, fun i' j' a b h1 h2 u hu => ?_, fun i' a h1 u hu => ?_, fun i' a ls h1 u hu => ?_, fun x' i' r' hu => ?_⟩
  · rw [valV_put] at hu
    split at hu
    · next e =>
      obtain ⟨e1, rfl, e3⟩ := inj e
      rw [← Option.some.inj hu]
      exact hb j' a b e1 e3 h1 h2
    · exact h.both i' j' a b h1 h2 u hu
  · rw [valV_put] at hu
    split at hu
    · next e =>
      obtain ⟨e1, rfl, e3⟩ := inj e
      rw [← Option.some.inj hu]
      exact he j' a b e1 e3 h1 h2
    · exact h.either i' j' a b h1 h2 u hu
  · rw [valV_put] at hu
    split at hu
    · next e =>
      obtain ⟨e1, rfl, e3⟩ := inj e
      rw [← Option.some.inj hu]
      exact hn a e1 e3 h1
    · exact h.rest i' a h1 u hu
  · rw [valV_put] at hu
    split at hu
    · next e =>
      obtain ⟨e1, rfl, e3⟩ := inj e
      rw [← Option.some.inj hu]
      exact hf a ls e1 e3 h1
    · exact h.freed i' a ls h1 u hu
  · rw [valV_put] at hu
    split at hu
    · next e =>
      obtain ⟨e1, rfl, e3⟩ := inj e
      exact ⟨hi, fun j hj => hr j (e3.trans hj)⟩
    · exact h.old x' i' r' hu
end Wv

end
section
set_option maxRecDepth 100000
set_option maxHeartbeats 2000000
/-! An object of the class Trees in the abstract heap. -/
namespace Wv
open PySem PySem.Spec PyProof.Rows L2
structure TA where
  dx : Addr
  lv : Addr
  lo : Addr
  hi : Addr
  kn : Addr
  td : Addr
def flds (L : Nat) (A : TA) : List (Str × V) :=
  putF "own_told" (.ref A.td) (putF "own_known" (.ref A.kn) (putF "own_high" (.ref A.hi) (putF "own_low" (.ref A.lo) (putF "own_level" (.ref A.lv) (putF "own_levels" (.int L) [])))))
theorem fn1 : ¬ (("own_levels" : Str) = "own_level") := by decide +kernel
theorem fn2 : ¬ (("own_levels" : Str) = "own_low") := by decide +kernel
theorem fn3 : ¬ (("own_levels" : Str) = "own_high") := by decide +kernel
theorem fn4 : ¬ (("own_levels" : Str) = "own_known") := by decide +kernel
theorem fn5 : ¬ (("own_levels" : Str) = "own_told") := by decide +kernel
theorem fn6 : ¬ (("own_level" : Str) = "own_low") := by decide +kernel
theorem fn7 : ¬ (("own_level" : Str) = "own_high") := by decide +kernel
theorem fn8 : ¬ (("own_level" : Str) = "own_known") := by decide +kernel
theorem fn9 : ¬ (("own_level" : Str) = "own_told") := by decide +kernel
theorem fn10 : ¬ (("own_low" : Str) = "own_high") := by decide +kernel
theorem fn11 : ¬ (("own_low" : Str) = "own_known") := by decide +kernel
theorem fn12 : ¬ (("own_low" : Str) = "own_told") := by decide +kernel
theorem fn13 : ¬ (("own_high" : Str) = "own_known") := by decide +kernel
theorem fn14 : ¬ (("own_high" : Str) = "own_told") := by decide +kernel
theorem fn15 : ¬ (("own_known" : Str) = "own_told") := by decide +kernel
section
variable (L : Nat) (A : TA)
theorem f_levels : (flds L A).lookup ("own_levels" : Str) = some (.int L) := by
  unfold flds
  rw [lookup_putF, if_neg fn5, lookup_putF, if_neg fn4, lookup_putF, if_neg fn3, lookup_putF, if_neg fn2, lookup_putF, if_neg fn1, lookup_putF, if_pos rfl]
theorem f_level : (flds L A).lookup ("own_level" : Str) = some (.ref A.lv) := by
  unfold flds
  rw [lookup_putF, if_neg fn9, lookup_putF, if_neg fn8, lookup_putF, if_neg fn7, lookup_putF, if_neg fn6, lookup_putF, if_pos rfl]
theorem f_low : (flds L A).lookup ("own_low" : Str) = some (.ref A.lo) := by
  unfold flds
  rw [lookup_putF, if_neg fn12, lookup_putF, if_neg fn11, lookup_putF, if_neg fn10, lookup_putF, if_pos rfl]
theorem f_high : (flds L A).lookup ("own_high" : Str) = some (.ref A.hi) := by
  unfold flds
  rw [lookup_putF, if_neg fn14, lookup_putF, if_neg fn13, lookup_putF, if_pos rfl]
theorem f_known : (flds L A).lookup ("own_known" : Str) = some (.ref A.kn) := by
  unfold flds
  rw [lookup_putF, if_neg fn15, lookup_putF, if_pos rfl]
theorem f_told : (flds L A).lookup ("own_told" : Str) = some (.ref A.td) := by
  unfold flds
  rw [lookup_putF, if_pos rfl]
theorem f_no {m : Str} (h1 : ¬ m = "own_told") (h2 : ¬ m = "own_known") (h3 : ¬ m = "own_high") (h4 : ¬ m = "own_low") (h5 : ¬ m = "own_level") (h6 : ¬ m = "own_levels") : (flds L A).lookup m = none := by
  unfold flds
  rw [lookup_putF, if_neg h1, lookup_putF, if_neg h2, lookup_putF, if_neg h3, lookup_putF, if_neg h4, lookup_putF, if_neg h5, lookup_putF, if_neg h6]
  rfl
end
theorem no_node (L : Nat) (A : TA) : (flds L A).lookup ("node" : Str) = none := f_no L A (by decide +kernel) (by decide +kernel) (by decide +kernel) (by decide +kernel) (by decide +kernel) (by decide +kernel)
theorem no_halves (L : Nat) (A : TA) : (flds L A).lookup ("halves" : Str) = none := f_no L A (by decide +kernel) (by decide +kernel) (by decide +kernel) (by decide +kernel) (by decide +kernel) (by decide +kernel)
theorem no_both (L : Nat) (A : TA) : (flds L A).lookup ("both" : Str) = none := f_no L A (by decide +kernel) (by decide +kernel) (by decide +kernel) (by decide +kernel) (by decide +kernel) (by decide +kernel)
theorem no_either (L : Nat) (A : TA) : (flds L A).lookup ("either" : Str) = none := f_no L A (by decide +kernel) (by decide +kernel) (by decide +kernel) (by decide +kernel) (by decide +kernel) (by decide +kernel)
theorem no_rest (L : Nat) (A : TA) : (flds L A).lookup ("rest" : Str) = none := f_no L A (by decide +kernel) (by decide +kernel) (by decide +kernel) (by decide +kernel) (by decide +kernel) (by decide +kernel)
theorem no_together (L : Nat) (A : TA) : (flds L A).lookup ("together" : Str) = none := f_no L A (by decide +kernel) (by decide +kernel) (by decide +kernel) (by decide +kernel) (by decide +kernel) (by decide +kernel)
theorem no_row (L : Nat) (A : TA) : (flds L A).lookup ("row" : Str) = none := f_no L A (by decide +kernel) (by decide +kernel) (by decide +kernel) (by decide +kernel) (by decide +kernel) (by decide +kernel)
theorem no_freed (L : Nat) (A : TA) : (flds L A).lookup ("freed" : Str) = none := f_no L A (by decide +kernel) (by decide +kernel) (by decide +kernel) (by decide +kernel) (by decide +kernel) (by decide +kernel)
theorem no_put (L : Nat) (A : TA) : (flds L A).lookup ("put" : Str) = none := f_no L A (by decide +kernel) (by decide +kernel) (by decide +kernel) (by decide +kernel) (by decide +kernel) (by decide +kernel)
theorem no_put_back (L : Nat) (A : TA) : (flds L A).lookup ("put_back" : Str) = none := f_no L A (by decide +kernel) (by decide +kernel) (by decide +kernel) (by decide +kernel) (by decide +kernel) (by decide +kernel)
theorem no_many (L : Nat) (A : TA) : (flds L A).lookup ("many" : Str) = none := f_no L A (by decide +kernel) (by decide +kernel) (by decide +kernel) (by decide +kernel) (by decide +kernel) (by decide +kernel)
theorem no_below (L : Nat) (A : TA) : (flds L A).lookup ("below" : Str) = none := f_no L A (by decide +kernel) (by decide +kernel) (by decide +kernel) (by decide +kernel) (by decide +kernel) (by decide +kernel)
theorem no_many_parts (L : Nat) (A : TA) : (flds L A).lookup ("many_parts" : Str) = none := f_no L A (by decide +kernel) (by decide +kernel) (by decide +kernel) (by decide +kernel) (by decide +kernel) (by decide +kernel)
theorem no_first (L : Nat) (A : TA) : (flds L A).lookup ("first" : Str) = none := f_no L A (by decide +kernel) (by decide +kernel) (by decide +kernel) (by decide +kernel) (by decide +kernel) (by decide +kernel)
theorem no_parts (L : Nat) (A : TA) : (flds L A).lookup ("parts" : Str) = none := f_no L A (by decide +kernel) (by decide +kernel) (by decide +kernel) (by decide +kernel) (by decide +kernel) (by decide +kernel)
/-- a list of numbers -/
abbrev nums (ns : List Nat) : List V := ns.map fun (n : Nat) => V.int (n : Int)
/-- what the store may hold: far below the line of sizes -/
abbrev cap : Nat := 8000000
theorem cap_line {n : Nat} (h : n ≤ cap + 2) : n < sizeLine := Nat.lt_of_le_of_lt h (by rw [sizeLine_eq]; decide)
/-- at p stands an object of the class at C with the trees S, over L levels; n: a bound of what it has taken in -/
structure TAt (P : Program) (w : World) (C : Addr) (H : Hp) (p : Addr) (A : TA) (L : Nat) (S : Sto) (n : Nat) : Prop where
  ob : H p = some (.ins C A.dx (flds L A))
  lv : H A.lv = some (.lst (nums (S.ts.map (BT.lev L))))
  lo : H A.lo = some (.lst (nums S.ls))
  hi : H A.hi = some (.lst (nums S.hs))
  ne : A.lv ≠ A.lo ∧ A.lv ≠ A.hi ∧ A.lo ≠ A.hi
  ok : Sok L S
  kn : ∃ kvs, H A.kn = some (.dT kvs) ∧ Kok S kvs
  td : ∃ tk, NDict P w H A.td tk ∧ Mok L S tk ∧ tk.length ≤ n
  sz : S.ts.length ≤ n + 2
def fps (A : TA) : List Addr := [A.lv, A.lo, A.hi, A.kn, A.td]
section
variable {P : Program} {w : World} {C : Addr} {H H' : Hp} {p : Addr} {A : TA} {L : Nat} {S : Sto} {n : Nat}
theorem TAt.mono (h : TAt P w C H p A L S n) {m : Nat} (hm : n ≤ m) : TAt P w C H p A L S m :=
  ⟨h.ob, h.lv, h.lo, h.hi, h.ne, h.ok, h.kn, let ⟨tk, a, b, c⟩ := h.td; ⟨tk, a, b, Nat.le_trans c hm⟩, by have := h.sz; omega⟩
theorem TAt.tdn (h : TAt P w C H p A L S n) : ∃ xs, H A.td = some (NDo P w A.td xs) := let ⟨_, a, _⟩ := h.td; a.at
/-- it stays while what isn't its own changes -/
theorem TAt.stay (h : TAt P w C H p A L S n) (k : ∀ b o, (b = p ∨ b ∈ fps A) → H b = some o → H' b = some o) (kt : ∀ b ys, H b = some (.tup ys) → H' b = some (.tup ys)) : TAt P w C H' p A L S n := by
  obtain ⟨kvs, e, q⟩ := h.kn
  obtain ⟨tk, a, b, c⟩ := h.td
  exact ⟨k _ _ (.inl rfl) h.ob, k _ _ (.inr (by simp [fps])) h.lv, k _ _ (.inr (by simp [fps])) h.lo, k _ _ (.inr (by simp [fps])) h.hi, h.ne, h.ok, ⟨kvs, k _ _ (.inr (by simp [fps])) e, q⟩, ⟨tk, a.stay (fun o => k _ o (.inr (by simp [fps]))) kt, b, c⟩, h.sz⟩
theorem TAt.notT (h : TAt P w C H p A L S n) : ∀ b o, (b = p ∨ b ∈ fps A) → H b = some o → ∀ ps, o ≠ .tbl ps := by
  obtain ⟨kvs, e, _⟩ := h.kn
  obtain ⟨xs, e2⟩ := h.tdn
  intro b o hb hbo ps z
  subst z
  rcases hb with rfl | hb
  · rw [h.ob] at hbo; cases hbo
  · simp only [fps, List.mem_cons, List.not_mem_nil, or_false] at hb
    rcases hb with rfl | rfl | rfl | rfl | rfl
    · rw [h.lv] at hbo; cases hbo
    · rw [h.lo] at hbo; cases hbo
    · rw [h.hi] at hbo; cases hbo
    · rw [e] at hbo; cases hbo
    · rw [e2] at hbo; cases hbo
/-- it stays while all that was tracked stays -/
theorem TAt.keepX (h : TAt P w C H p A L S n) (k : KeepX [] H H') : TAt P w C H' p A L S n :=
  h.stay (fun b o hb e => k b o e (by simp) (h.notT b o hb e)) fun b ys e => k.tup e (by simp)
theorem TAt.keep (h : TAt P w C H p A L S n) (k : Keeps [] H H') : TAt P w C H' p A L S n := h.keepX k.x
theorem TAt.new (h : TAt P w C H p A L S n) {q : Addr} (hq : H q = none) (o : HO) : TAt P w C (upd H q o) p A L S n := h.keep (Keeps.new hq o)
/-- what is tracked and no part of it -/
theorem TAt.tup_ne (h : TAt P w C H p A L S n) {b : Addr} {ys : List V} (e : H b = some (.tup ys)) : b ∉ fps A := by
  obtain ⟨kvs, e1, _⟩ := h.kn
  obtain ⟨xs, e2⟩ := h.tdn
  simp only [fps, List.mem_cons, List.not_mem_nil, or_false]
  rintro (rfl | rfl | rfl | rfl | rfl)
  · rw [h.lv] at e; cases e
  · rw [h.lo] at e; cases e
  · rw [h.hi] at e; cases e
  · rw [e1] at e; cases e
  · rw [e2] at e; cases e
theorem TAt.none_ne (h : TAt P w C H p A L S n) {b : Addr} (e : H b = none) : b ∉ fps A := by
  obtain ⟨kvs, e1, _⟩ := h.kn
  obtain ⟨xs, e2⟩ := h.tdn
  simp only [fps, List.mem_cons, List.not_mem_nil, or_false]
  rintro (rfl | rfl | rfl | rfl | rfl)
  · rw [h.lv] at e; cases e
  · rw [h.lo] at e; cases e
  · rw [h.hi] at e; cases e
  · rw [e1] at e; cases e
  · rw [e2] at e; cases e
theorem TAt.p_ne (h : TAt P w C H p A L S n) : p ∉ fps A := by
  obtain ⟨kvs, e1, _⟩ := h.kn
  obtain ⟨xs, e2⟩ := h.tdn
  have e := h.ob
  simp only [fps, List.mem_cons, List.not_mem_nil, or_false]
  intro z
  rcases z with z | z | z | z | z <;> rw [z] at e
  · rw [h.lv] at e; cases e
  · rw [h.lo] at e; cases e
  · rw [h.hi] at e; cases e
  · rw [e1] at e; cases e
  · rw [e2] at e; cases e
/-- an item of a list of numbers -/
theorem atI_nums {ns : List Nat} {i k : Nat} (h : ns[i]? = some k) : atI (nums ns) ((i : Nat) : Int) = some (.int (k : Int)) := atI_nat (by rw [List.getElem?_map, h]; rfl)
theorem atI_lev {S : Sto} {L i : Nat} {t : BT} (h : S.ts[i]? = some t) : atI (nums (S.ts.map (BT.lev L))) ((i : Nat) : Int) = some (.int ((BT.lev L t : Nat) : Int)) := atI_nums (by rw [List.getElem?_map, h]; rfl)
end
end Wv

end
section
set_option maxRecDepth 100000
set_option maxHeartbeats 8000000
/-! The methods of Trees: __init__, node, halves. Printed from K73T1.tpl by tm.py. -/
namespace Wv
open PySem PySem.Spec PyProof.Rows L2
abbrev TC (K : PySem.W.Frag) : Addr := He.ga K "Trees"
abbrev TM (K : PySem.W.Frag) (m : Str) : Addr := He.ma K (He.ga K "Trees") m
theorem hu9_of {A : Around} {k : Nat} (hr : Room k A) : A.units + 9 < cLine := by have := hr.units; omega
def spInit (P : Program) (w : World) (C : Addr) : Sp := fun vs H Q _ => ∃ (p dx : Addr) (L : Nat), vs = [.ref p, .int L] ∧ H p = some (.ins C dx []) ∧
  ∀ (A : TA) (H' : Hp), A.dx = dx → TAt P w C H' p A L Sto.new 0 → Keeps [p] H H' → (∀ b ∈ fps A, H b = none) → Q .non H'
def spNode (P : Program) (w : World) (C : Addr) : Sp := fun vs H Q _ => ∃ (p : Addr) (A : TA) (L : Nat) (S : Sto) (n l i j : Nat) (a b : BT), vs = [.ref p, .int l, .int i, .int j] ∧ TAt P w C H p A L S n ∧ n + 1 ≤ cap ∧
  S.ts[i]? = some a ∧ S.ts[j]? = some b ∧ l < L ∧ l < BT.lev L a ∧ l < BT.lev L b ∧
  ∀ (k : Nat) (S' : Sto) (H' : Hp), TAt P w C H' p A L S' (n + 1) → Ext S S' → Keeps (fps A) H H' → S'.ts[k]? = some (BT.mk l a b) → Q (.int k) H'
/-- the halves below a level: numbers, in a new tuple -/
def spHalves (P : Program) (w : World) (C : Addr) : Sp := fun vs H Q _ => ∃ (p : Addr) (A : TA) (L : Nat) (S : Sto) (n l i : Nat) (t : BT), vs = [.ref p, .int i, .int l] ∧ TAt P w C H p A L S n ∧ S.ts[i]? = some t ∧ l < L ∧
  ∀ (x y : Nat) (q : Addr), S.ts[x]? = some (BT.half l false t) → S.ts[y]? = some (BT.half l true t) → H q = none → Q (.ref q) (upd H q (.tup [.int x, .int y]))
section
variable {P : Program} {w : World} {K : PySem.W.Frag} {mg : Str → Option Value} {base h : Heap} (T : Tp K mg w h)
include T
theorem ok_Trees_initI : FnR P w K mg base CX0 1 (TM K "__init__") (spInit P w (TC K)) := by
  refine fnR0_of T.F_Trees_initI sc_Trees_initI (fun _ _ _ _ _ _ us hl => match us, hl with | [_, _], _ => rfl) (fun vs H Q E h => ?_) (fun cdv AA outer s H vs Q E hr h => ?_)
  · obtain ⟨p, dx, L, rfl, _⟩ := h
    rfl
  obtain ⟨p, dx, L, rfl, hp, k⟩ := h
  refine ⟨_, (pss_cons (ps_fld (pv 0) (pv 1) rfl)
      (pss_cons (ps_fld (pv 0) (pe_lst (pa_cons (pv 1) (pa_cons (pv 1) pa_nil))) rfl)
      (pss_cons (ps_fld (pv 0) (pe_lst (pa_cons pe_int (pa_cons pe_int pa_nil))) rfl)
      (pss_cons (ps_fld (pv 0) (pe_lst (pa_cons pe_int (pa_cons pe_int pa_nil))) rfl)
      (pss_cons (ps_fld (pv 0) pe_dnewT rfl)
      (pss_one (ps_fld (pv 0) pe_dnewN rfl))))))), ?_⟩
  have C := T.cl_Trees
  refine ⟨_, rfl, _, rfl, p, _, dx, _, rfl, hp, C, T.n_Trees_own_levels, (by show 0 < 1000; decide), ?_⟩
  -- self.own_level = [levels, levels]
  refine ⟨_, rfl, _, rfl, (by show 2 ≤ sizeLine; decide), fun lv hlv => ?_⟩
  have n1 : p ≠ lv := ne_of_none (upd_same : upd H p _ p = _) hlv
  rw [upd_ne n1.symm] at hlv
  refine ⟨_, rfl, p, _, dx, _, rfl, (by rw [upd_ne n1, upd_same]), C, T.n_Trees_own_level, (by show 1 < 1000; decide), ?_⟩
  refine ⟨(by show 2 ≤ sizeLine; decide), fun lo hlo => ?_⟩
  have n2 : p ≠ lo := ne_of_none (upd_same : upd _ p _ p = _) hlo
  rw [upd_ne n2.symm] at hlo
  have m2 : lv ≠ lo := ne_of_none (upd_same : upd _ lv _ lv = _) hlo
  rw [upd_ne m2.symm, upd_ne n2.symm] at hlo
  refine ⟨_, rfl, p, _, dx, _, rfl, (by rw [upd_ne n2, upd_same]), C, T.n_Trees_own_low, (by show 2 < 1000; decide), ?_⟩
  refine ⟨(by show 2 ≤ sizeLine; decide), fun hi hhi => ?_⟩
  have n3 : p ≠ hi := ne_of_none (upd_same : upd _ p _ p = _) hhi
  rw [upd_ne n3.symm] at hhi
  have m3 : lo ≠ hi := ne_of_none (upd_same : upd _ lo _ lo = _) hhi
  rw [upd_ne m3.symm, upd_ne n3.symm] at hhi
  have m3' : lv ≠ hi := ne_of_none (upd_same : upd _ lv _ lv = _) hhi
  rw [upd_ne m3'.symm, upd_ne n3.symm] at hhi
  refine ⟨_, rfl, p, _, dx, _, rfl, (by rw [upd_ne n3, upd_same]), C, T.n_Trees_own_high, (by show 3 < 1000; decide), ?_⟩
  intro kn hkn
  have n4 : p ≠ kn := ne_of_none (upd_same : upd _ p _ p = _) hkn
  rw [upd_ne n4.symm] at hkn
  have a4 : hi ≠ kn := ne_of_none (upd_same : upd _ hi _ hi = _) hkn
  rw [upd_ne a4.symm, upd_ne n4.symm] at hkn
  have b4 : lo ≠ kn := ne_of_none (upd_same : upd _ lo _ lo = _) hkn
  rw [upd_ne b4.symm, upd_ne n4.symm] at hkn
  have c4 : lv ≠ kn := ne_of_none (upd_same : upd _ lv _ lv = _) hkn
  rw [upd_ne c4.symm, upd_ne n4.symm] at hkn
  refine ⟨_, rfl, p, _, dx, _, rfl, (by rw [upd_ne n4, upd_same]), C, T.n_Trees_own_known, (by show 4 < 1000; decide), ?_⟩
  intro td o htd hto hN
  have n5 : p ≠ td := ne_of_none (upd_same : upd _ p _ p = _) htd
  rw [upd_ne n5.symm] at htd
  have a5 : kn ≠ td := ne_of_none (upd_same : upd _ kn _ kn = _) htd
  rw [upd_ne a5.symm, upd_ne n5.symm] at htd
  have b5 : hi ≠ td := ne_of_none (upd_same : upd _ hi _ hi = _) htd
  rw [upd_ne b5.symm, upd_ne n5.symm] at htd
  have c5 : lo ≠ td := ne_of_none (upd_same : upd _ lo _ lo = _) htd
  rw [upd_ne c5.symm, upd_ne n5.symm] at htd
  have d5 : lv ≠ td := ne_of_none (upd_same : upd _ lv _ lv = _) htd
  rw [upd_ne d5.symm, upd_ne n5.symm] at htd
  refine ⟨_, rfl, p, _, dx, _, rfl, (by rw [upd_ne n5, upd_same]), C, T.n_Trees_own_told, (by show 5 < 1000; decide), ?_⟩
  refine k ⟨dx, lv, lo, hi, kn, td⟩ _ rfl ⟨upd_same, ?_, ?_, ?_, ⟨m2, m3', m3⟩, Sok.new L, ⟨[], ?_, Kok.new⟩, ⟨[], ?_, Mok.new L, Nat.le_refl _⟩, Nat.le_refl _⟩ ?_ ?_
  · show upd _ p _ lv = _
    rw [upd_ne n1.symm, upd_ne d5, upd_ne n1.symm, upd_ne c4, upd_ne n1.symm, upd_ne m3', upd_ne n1.symm, upd_ne m2, upd_ne n1.symm, upd_same]
    rfl
  · show upd _ p _ lo = _
    rw [upd_ne n2.symm, upd_ne c5, upd_ne n2.symm, upd_ne b4, upd_ne n2.symm, upd_ne m3, upd_ne n2.symm, upd_same]
    rfl
  · show upd _ p _ hi = _
    rw [upd_ne n3.symm, upd_ne b5, upd_ne n3.symm, upd_ne a4, upd_ne n3.symm, upd_same]
    rfl
  · show upd _ p _ kn = _
    rw [upd_ne n4.symm, upd_ne a5, upd_ne n4.symm, upd_same]
  · refine hN.stay (fun o e => ?_) fun b ys e => ?_
    · show upd _ p _ td = _
      rw [upd_ne n5.symm]
      exact e
    · have hb : b ≠ p := fun z => by
        rw [z, upd_ne n5, upd_same] at e
        cases e
      rw [upd_ne hb]
      exact e
  · intro b o' e hb
    have hbp : b ≠ p := by simpa using hb
    rw [upd_ne hbp, upd_ne (ne_of_none e htd), upd_ne hbp, upd_ne (ne_of_none e hkn), upd_ne hbp, upd_ne (ne_of_none e hhi), upd_ne hbp, upd_ne (ne_of_none e hlo), upd_ne hbp, upd_ne (ne_of_none e hlv), upd_ne hbp]
    exact e
  · intro b hb
    simp only [fps, List.mem_cons, List.not_mem_nil, or_false] at hb
    rcases hb with rfl | rfl | rfl | rfl | rfl <;> assumption
theorem ok_Trees_halves : FnR P w K mg base CX0 1 (TM K "halves") (spHalves P w (TC K)) := by
  refine fnR0_of T.F_Trees_halves sc_Trees_halves (fun _ _ _ _ _ _ us hl => match us, hl with | [_, _, _], _ => rfl) (fun vs H Q E h => ?_) (fun cdv AA outer s H vs Q E hr h => ?_)
  · obtain ⟨p, A, L, S, n, l, i, t, rfl, _⟩ := h
    rfl
  obtain ⟨p, A, L, S, n, l, i, t, rfl, st, hi, hl, k⟩ := h
  refine ⟨_, (pss_cons (ps_if (pt_cmpR op_ne (pe_ix ix_list (pe_fld (pv 0) rfl) (pv 1) (fun _ _ => rfl)) (pv 2) (nomark _)) (pss_one (ps_ret (pe_tup (pa_cons (pv 1) (pa_cons (pv 1) pa_nil))))) pss_nil)
      (pss_one (ps_ret (pe_tup (pa_cons (pe_ix ix_list (pe_fld (pv 0) rfl) (pv 1) (fun _ _ => rfl)) (pa_cons (pe_ix ix_list (pe_fld (pv 0) rfl) (pv 1) (fun _ _ => rfl)) pa_nil)))))), ?_⟩
  have C := T.cl_Trees
  refine ⟨_, rfl, p, _, _, _, _, rfl, st.ob, C, T.n_Trees_own_level, f_level _ _, _, rfl, A.lv, _, _, _, rfl, rfl, SqL.of st.lv, atI_lev hi, _, rfl, rfl, _, rfl, ?_⟩
  refine ite2 (fun c => ?_) (fun c => ?_)
  · have c' : BT.lev L t ≠ l := fun e => by
      rw [e] at c
      simp at c
    refine ⟨_, rfl, _, rfl, (by show 2 ≤ sizeLine; decide), fun q hq => ?_⟩
    exact k i i q (by rw [BT.half_ne (.inl c')]; exact hi) (by rw [BT.half_ne (.inl c')]; exact hi) hq
  · have c' : BT.lev L t = l := by
      by_cases e : BT.lev L t = l
      · exact e
      · exfalso
        apply c
        have : ¬ (V.int ((BT.lev L t : Nat) : Int) = V.int (l : Int)) := fun z => e (by injection z with z; omega)
        simp [this]
    cases t with
    | leaf b =>
      have : L = l := c'
      omega
    | node m a b =>
      have em : m = l := c'
      subst em
      obtain ⟨x, y, h1, h2, h3, h4⟩ := st.ok.ch i m a b hi
      refine ⟨_, rfl, p, _, _, _, _, rfl, st.ob, C, T.n_Trees_own_low, f_low _ _, _, rfl, A.lo, _, _, _, rfl, rfl, SqL.of st.lo, atI_nums h1, _, rfl, p, _, _, _, _, rfl, st.ob, C, T.n_Trees_own_high, f_high _ _, _, rfl, A.hi, _, _, _, rfl, rfl, SqL.of st.hi, atI_nums h2, (by show 2 ≤ sizeLine; decide), fun q hq => ?_⟩
      exact k x y q (by rw [BT.half_node, if_pos rfl]; exact h3) (by rw [BT.half_node, if_pos rfl]; exact h4) hq
theorem ok_Trees_node : FnR P w K mg base CX0 1 (TM K "node") (spNode P w (TC K)) := by
  refine fnR0_of T.F_Trees_node sc_Trees_node (fun _ _ _ _ _ _ us hl => match us, hl with | [_, _, _, _], _ => rfl) (fun vs H Q E h => ?_) (fun cdv AA outer s H vs Q E hr h => ?_)
  · obtain ⟨p, A, L, S, n, l, i, j, a, b, rfl, _⟩ := h
    rfl
  obtain ⟨p, A, L, S, n, l, i, j, a, b, rfl, st, hn, hi, hj, hl, ha, hb, k⟩ := h
  have hu := hu_of hr
  refine ⟨_, (pss_cons (ps_if (pt_cmpR op_eq (pv 2) (pv 3) (nomark _)) (pss_one (ps_ret (pv 2))) pss_nil)
      (pss_cons (ps_set (i := 4) sc_Trees_node.nd rfl (Or.inl rfl) (pe_tup (pa_cons (pv 1) (pa_cons (pv 2) (pa_cons (pv 3) pa_nil)))))
      (pss_cons (ps_if (pt_cmp (pc_dnotin hu (pv 4) (pe_fld (pv 0) rfl))) (pss_cons (ps_dput hu (pe_fld (pv 0) rfl) (pv 4) (pe_callB call_len_seq (by rfl) T.z_len PySem.boot_len (pa_cons (pe_fld (pv 0) rfl) pa_nil)) rfl)
      (pss_cons (ps_expr (pe_bm PySem.F.plainAttrs_list PySem.F.slot_list_append PySem.F.type_list_append mt_append (pe_fld (pv 0) rfl) (pa_cons (pv 1) pa_nil)))
      (pss_cons (ps_expr (pe_bm PySem.F.plainAttrs_list PySem.F.slot_list_append PySem.F.type_list_append mt_append (pe_fld (pv 0) rfl) (pa_cons (pv 2) pa_nil)))
      (pss_one (ps_expr (pe_bm PySem.F.plainAttrs_list PySem.F.slot_list_append PySem.F.type_list_append mt_append (pe_fld (pv 0) rfl) (pa_cons (pv 3) pa_nil))))))) pss_nil)
      (pss_one (ps_ret (pe_dget hu (pe_fld (pv 0) rfl) (pv 4) (fun _ _ => rfl))))))), ?_⟩
  have C := T.cl_Trees
  refine ⟨_, rfl, _, rfl, rfl, _, rfl, ?_⟩
  refine ite2 (fun c => ?_) (fun c => ?_)
  · have c' : i = j := by
      have : V.int (i : Int) = V.int (j : Int) := of_decide_eq_true c
      injection this with z
      omega
    subst c'
    have e : a = b := Option.some.inj (hi.symm.trans hj)
    subst e
    refine ⟨_, rfl, ?_⟩
    exact k i S H (st.mono (Nat.le_succ n)) (Ext.refl S) (Keeps.refl _ _) (by rw [BT.mk, if_pos rfl]; exact hi)
  have cij : i ≠ j := fun e => c (by rw [e]; simp)
  have cab : a ≠ b := fun e => cij ((st.ok.eq hi hj).mpr e)
  -- key = (level, low, high)
  refine ⟨_, rfl, _, rfl, _, rfl, (by show 3 ≤ sizeLine; decide), fun t ht => ?_⟩
  have st1 := st.new ht (.tup [.int l, .int i, .int j])
  have kt : upd H t (.tup [.int l, .int i, .int j]) t = some (.tup ((kNode l i j).map kV)) := upd_same
  obtain ⟨kvs, hkn, kok⟩ := st1.kn
  have K1 : Keeps (fps A) H (upd H t (.tup [.int l, .int i, .int j])) := Keeps.new ht _
  generalize upd H t (.tup [.int l, .int i, .int j]) = H1 at st1 kt hkn K1 ⊢
  refine ⟨_, rfl, _, rfl, p, _, _, _, _, rfl, st1.ob, C, T.n_Trees_own_known, f_known _ _, A.kn, _, rfl, DGet.t hkn kt, _, rfl, ?_⟩
  cases e : valV kvs (kNode l i j) with
  | some v =>
    obtain ⟨m, rfl, hm⟩ := kok.to l i j a b hi hj v e
    refine iteF ?_
    refine ⟨_, rfl, p, _, _, _, _, rfl, st1.ob, C, T.n_Trees_own_known, f_known _ _, _, rfl, A.kn, _, rfl, (by rw [← e]; exact DGet.t hkn kt), ?_⟩
    exact k m S H1 (st1.mono (Nat.le_succ n)) (Ext.refl S) K1 (by rw [BT.mk, if_neg cab]; exact hm)
  | none =>
    refine iteT ?_
    have hnot : BT.node l a b ∉ S.ts := fun hm => by
      have := kok.fro l i j a b hi hj hm
      rw [e] at this
      cases this
    have hgood : BT.Good L (.node l a b) := ⟨hl, ha, hb, cab, st.ok.g hi, st.ok.g hj⟩
    have hsz := st.sz
    have hlen : S.ts.length < sizeLine := cap_line (by omega)
    -- self.own_known[key] = len(self.own_level)
    refine ⟨_, rfl, p, _, _, _, _, rfl, st1.ob, C, T.n_Trees_own_level, f_level _ _, A.lv, _, rfl, .inl (SqL.of st1.lv), ?_⟩
    rw [show (nums (S.ts.map (BT.lev L))).length = S.ts.length by simp]
    refine ⟨_, rfl, p, _, _, _, _, rfl, st1.ob, C, T.n_Trees_own_known, f_known _ _, _, rfl, A.kn, _, rfl, DPut.t hkn kt (cap_line (by have := kok.len; omega)), ?_⟩
    have hknp : p ≠ A.kn := ne_of st1.ob hkn (by intro z; cases z)
    have hlvk : A.lv ≠ A.kn := ne_of st1.lv hkn (by intro z; cases z)
    have hlok : A.lo ≠ A.kn := ne_of st1.lo hkn (by intro z; cases z)
    have hhik : A.hi ≠ A.kn := ne_of st1.hi hkn (by intro z; cases z)
    have hplv : p ≠ A.lv := ne_of st1.ob st1.lv (by intro z; cases z)
    have hplo : p ≠ A.lo := ne_of st1.ob st1.lo (by intro z; cases z)
    have hphi : p ≠ A.hi := ne_of st1.ob st1.hi (by intro z; cases z)
    obtain ⟨n1, n2, n3⟩ := st1.ne
    -- the three lists
    refine ⟨_, rfl, p, _, _, _, _, rfl, (by rw [upd_ne hknp]; exact st1.ob), C, T.n_Trees_own_level, f_level _ _, .inl ⟨rfl, _, SqL.of (by rw [upd_ne hlvk]; exact st1.lv)⟩, _, rfl, A.lv, _, _, rfl, rfl, (by rw [upd_ne hlvk]; exact st1.lv), (by rw [show (nums (S.ts.map (BT.lev L))).length = S.ts.length by simp]; exact hlen), ?_⟩
    refine ⟨_, rfl, p, _, _, _, _, rfl, (by rw [upd_ne hplv, upd_ne hknp]; exact st1.ob), C, T.n_Trees_own_low, f_low _ _, .inl ⟨rfl, _, SqL.of (by rw [upd_ne n1.symm, upd_ne hlok]; exact st1.lo)⟩, _, rfl, A.lo, _, _, rfl, rfl, (by rw [upd_ne n1.symm, upd_ne hlok]; exact st1.lo), (by rw [show (nums S.ls).length = S.ts.length by simp [st.ok.ll]]; exact hlen), ?_⟩
    refine ⟨_, rfl, p, _, _, _, _, rfl, (by rw [upd_ne hplo, upd_ne hplv, upd_ne hknp]; exact st1.ob), C, T.n_Trees_own_high, f_high _ _, .inl ⟨rfl, _, SqL.of (by rw [upd_ne n3.symm, upd_ne n2.symm, upd_ne hhik]; exact st1.hi)⟩, _, rfl, A.hi, _, _, rfl, rfl, (by rw [upd_ne n3.symm, upd_ne n2.symm, upd_ne hhik]; exact st1.hi), (by rw [show (nums S.hs).length = S.ts.length by simp [st.ok.lh]]; exact hlen), ?_⟩
    -- the heap behind
    have hH : ∀ H2 : Hp, H2 = upd (upd (upd (upd H1 A.kn (.dT (putK kvs (kNode l i j) (.int (S.ts.length : Nat))))) A.lv (.lst (nums (S.ts.map (BT.lev L)) ++ [.int l]))) A.lo (.lst (nums S.ls ++ [.int i]))) A.hi (.lst (nums S.hs ++ [.int j])) →
        TAt P w (TC K) H2 p A L (S.add l i j (.node l a b)) (n + 1) ∧ Keeps (fps A) H1 H2 ∧ H2 t = some (.tup ((kNode l i j).map kV)) ∧ H2 A.kn = some (.dT (putK kvs (kNode l i j) (.int (S.ts.length : Nat)))) := by
      rintro H2 rfl
      have at_ : ∀ c, c ≠ A.kn → c ≠ A.lv → c ≠ A.lo → c ≠ A.hi → (upd (upd (upd (upd H1 A.kn (.dT (putK kvs (kNode l i j) (.int (S.ts.length : Nat))))) A.lv (.lst (nums (S.ts.map (BT.lev L)) ++ [.int l]))) A.lo (.lst (nums S.ls ++ [.int i]))) A.hi (.lst (nums S.hs ++ [.int j]))) c = H1 c := fun c h1 h2 h3 h4 => by
        rw [upd_ne h4, upd_ne h3, upd_ne h2, upd_ne h1]
      have kp : Keeps (fps A) H1 (upd (upd (upd (upd H1 A.kn (.dT (putK kvs (kNode l i j) (.int (S.ts.length : Nat))))) A.lv (.lst (nums (S.ts.map (BT.lev L)) ++ [.int l]))) A.lo (.lst (nums S.ls ++ [.int i]))) A.hi (.lst (nums S.hs ++ [.int j]))) := fun c o e hc => by
        simp only [fps, List.mem_cons, List.not_mem_nil, or_false, not_or] at hc
        rw [at_ c hc.2.2.2.1 hc.1 hc.2.1 hc.2.2.1]
        exact e
      have tne := st1.tup_ne kt
      have ekn : (upd (upd (upd (upd H1 A.kn (.dT (putK kvs (kNode l i j) (.int (S.ts.length : Nat))))) A.lv (.lst (nums (S.ts.map (BT.lev L)) ++ [.int l]))) A.lo (.lst (nums S.ls ++ [.int i]))) A.hi (.lst (nums S.hs ++ [.int j]))) A.kn = some (.dT (putK kvs (kNode l i j) (.int (S.ts.length : Nat)))) := by
        rw [upd_ne hhik.symm, upd_ne hlok.symm, upd_ne hlvk.symm, upd_same]
      refine ⟨⟨by rw [at_ p hknp hplv hplo hphi]; exact st1.ob, ?_, ?_, ?_, ⟨n1, n2, n3⟩, st.ok.add hi hj hgood hnot, ⟨_, ekn, kok.add st.ok hi hj hnot⟩, ?_, ?_⟩, kp, kp.tup kt tne, ekn⟩
      · rw [upd_ne n2, upd_ne n1, upd_same]
        show some (HO.lst (nums (S.ts.map (BT.lev L)) ++ [.int l])) = some (HO.lst (nums ((S.ts ++ [BT.node l a b]).map (BT.lev L))))
        rw [List.map_append, nums, nums, List.map_append]
        rfl
      · rw [upd_ne n3, upd_same]
        show some (HO.lst (nums S.ls ++ [.int i])) = some (HO.lst (nums (S.ls ++ [i])))
        rw [nums, nums, List.map_append]
        rfl
      · rw [upd_same]
        show some (HO.lst (nums S.hs ++ [.int j])) = some (HO.lst (nums (S.hs ++ [j])))
        rw [nums, nums, List.map_append]
        rfl
      · obtain ⟨tk, nd, mk, hl⟩ := st1.td
        obtain ⟨xs, etd⟩ := nd.at
        refine ⟨tk, nd.stay (fun o e => ?_) (fun c ys e => kp.tup e (st1.tup_ne e)), mk.ext (Ext.add S l i j _), by omega⟩
        rw [at_ A.td (ne_of etd hkn (by intro z; cases z)) (ne_of etd st1.lv (by intro z; cases z)) (ne_of etd st1.lo (by intro z; cases z)) (ne_of etd st1.hi (by intro z; cases z))]
        exact e
      · show (S.ts ++ [_]).length ≤ n + 1 + 2
        rw [List.length_append, List.length_singleton]
        omega
    obtain ⟨st2, K2, kt2, ekn2⟩ := hH _ rfl
    generalize upd (upd (upd (upd H1 A.kn (.dT (putK kvs (kNode l i j) (.int (S.ts.length : Nat))))) A.lv (.lst (nums (S.ts.map (BT.lev L)) ++ [.int l]))) A.lo (.lst (nums S.ls ++ [.int i]))) A.hi (.lst (nums S.hs ++ [.int j])) = H2 at st2 K2 kt2 ekn2 ⊢
    refine ⟨_, rfl, p, _, _, _, _, rfl, st2.ob, C, T.n_Trees_own_known, f_known _ _, _, rfl, A.kn, .int (S.ts.length : Nat), rfl, ?_, ?_⟩
    · have := DGet.t ekn2 kt2
      rw [valV_put, if_pos rfl] at this
      exact this
    · exact k S.ts.length _ H2 st2 (Ext.add S l i j _) (K1.trans K2) (by rw [BT.mk, if_neg cab]; exact add_new S l i j _)
end
end Wv

end
section
/-! What the trees' operations cost: how much a store may grow. Plain mathematics. -/
namespace Wv
namespace BT
/-- pairs that are answered at once, by both and by either -/
def term (t u : BT) : Bool := decide (t = leaf false) || decide (u = leaf false) || decide (t = leaf true) || decide (t = u) || decide (u = leaf true)
/-- what both or either of two trees take in, from level l on, m levels -/
def cs : Nat → Nat → BT → BT → Nat
  | 0, _, _, _ => 0
  | m + 1, l, t, u => if term t u = true then 0 else 2 + cs m (l + 1) (half l false t) (half l false u) + cs m (l + 1) (half l true t) (half l true u)
theorem cs_term {m l : Nat} {t u : BT} (h : term t u = true) : cs m l t u = 0 := by
  cases m with
  | zero => rfl
  | succ m => rw [cs, if_pos h]
theorem half_above {L l : Nat} {t : BT} (h : l < lev L t) (b : Bool) : half l b t = t := by
  cases t with
  | leaf c => rfl
  | node m x y =>
    have : l < m := h
    rw [half_node, if_neg (by omega)]
theorem cs_skip {L : Nat} {t u : BT} : ∀ (d l k : Nat), k = l + d → k ≤ lev L t → k ≤ lev L u → k ≤ L → cs (L - k) k t u ≤ cs (L - l) l t u
  | 0, l, k, h, _, _, _ => by rw [h]; exact Nat.le_refl _
  | d + 1, l, k, h, h1, h2, h3 => by
    have ih := cs_skip d (l + 1) k (by omega) h1 h2 h3
    rw [show L - l = (L - (l + 1)) + 1 by omega, cs]
    by_cases e : term t u = true
    · rw [cs_term e]; exact Nat.zero_le _
    · rw [if_neg e, half_above (L := L) (by omega), half_above (L := L) (by omega), half_above (L := L) (by omega), half_above (L := L) (by omega)]
      omega
theorem cs_bound : ∀ (m l : Nat) (t u : BT), cs m l t u + 2 ≤ 2 ^ (m + 1)
  | 0, _, _, _ => by simp [cs]
  | m + 1, l, t, u => by
    rw [cs, Nat.pow_succ]
    have h1 := cs_bound m (l + 1) (half l false t) (half l false u)
    have h2 := cs_bound m (l + 1) (half l true t) (half l true u)
    have h3 : 2 ≤ 2 ^ (m + 1) := by
      have : 2 ^ 1 ≤ 2 ^ (m + 1) := Nat.pow_le_pow_right (by decide) (by omega)
      simpa using this
    split <;> omega
/-- the step, at the least level of both -/
theorem cs_step {L l k : Nat} {t u : BT} (h : term t u = false) (hl : l ≤ k) (h1 : k ≤ lev L t) (h2 : k ≤ lev L u) (h3 : k < L) :
    2 + cs (L - (k + 1)) (k + 1) (half k false t) (half k false u) + cs (L - (k + 1)) (k + 1) (half k true t) (half k true u) ≤ cs (L - l) l t u := by
  have q := cs_skip (L := L) (t := t) (u := u) (k - l) l k (by omega) h1 h2 (by omega)
  rw [show L - k = (L - (k + 1)) + 1 by omega, cs, if_neg (by rw [h]; simp)] at q
  exact q
/-! ### rows -/
def rc : Pat → Nat
  | [] => 0
  | none :: p => 2 + 2 * rc p
  | some _ :: p => 2 + rc p
theorem rowT_ne {xs : List (Nat × Bool)} {L : Nat} (hs : xs.Pairwise fun a b => a.1 < b.1) (hL : ∀ x ∈ xs, x.1 < L) : rowT xs ≠ leaf false := fun e => by
  obtain ⟨g, d, _⟩ := rowT_ok hs hL
  have h1 := d fun j => (xs.lookup j).getD false
  rw [e] at h1
  have h2 : holdsAll xs (fun j => (xs.lookup j).getD false) = true := by
    rw [holdsAll, List.all_eq_true]
    have key : ∀ (ys : List (Nat × Bool)), (ys.Pairwise fun a b => a.1 < b.1) → ∀ x ∈ ys, ys.lookup x.1 = some x.2 := by
      intro ys hy
      induction ys with
      | nil => intro x hx; cases hx
      | cons y ys ih =>
        intro x hx
        obtain ⟨h1, h2⟩ := List.pairwise_cons.mp hy
        rcases List.mem_cons.mp hx with rfl | hx
        · simp [List.lookup]
        · have hne : (x.1 == y.1) = false := by
            have := h1 x hx
            exact beq_eq_false_iff_ne.mpr (by omega)
          rw [List.lookup, hne]
          exact ih h2 x hx
    intro x hx
    rw [key xs hs x hx]
    exact beq_self_eq_true x.2
  rw [h2] at h1
  cases h1
theorem half_row_none {l : Nat} {p : Pat} (b : Bool) : half l b (rowT (lits l (none :: p))) = rowT (lits (l + 1) p) := by
  show half l b (rowT (lits (l + 1) p)) = _
  obtain ⟨_, _, v⟩ := rowT_ok (L := l + 1 + p.length + 1) (lits_sorted p (l + 1)) fun x hx => by have := (lits_ge hx).2; omega
  exact half_above (L := l + 1 + p.length + 1) (v l (by omega) fun x hx => by have := (lits_ge hx).1; omega) b
theorem half_row_some {l : Nat} {p : Pat} (c b : Bool) : half l b (rowT (lits l (some c :: p))) = if b = c then rowT (lits (l + 1) p) else leaf false := by
  have hne : rowT (lits (l + 1) p) ≠ leaf false := rowT_ne (L := l + 1 + p.length) (lits_sorted p (l + 1)) fun x hx => (lits_ge hx).2
  show half l b (if c then mk l (leaf false) (rowT (lits (l + 1) p)) else mk l (rowT (lits (l + 1) p)) (leaf false)) = _
  cases c with
  | true =>
    show half l b (mk l (leaf false) (rowT (lits (l + 1) p))) = _
    rw [mk, if_neg (Ne.symm hne), half_node, if_pos rfl]
  | false =>
    show half l b (mk l (rowT (lits (l + 1) p)) (leaf false)) = _
    rw [mk, if_neg hne, half_node, if_pos rfl]
    cases b <;> rfl
theorem term_nil_r (t : BT) : term t (leaf false) = true := by simp [term]
theorem cs_row : ∀ (p : Pat) (l : Nat) (t : BT), cs p.length l t (rowT (lits l p)) ≤ rc p
  | [], _, _ => Nat.le_refl _
  | none :: p, l, t => by
    rw [List.length_cons, cs, rc, half_row_none, half_row_none]
    have h1 := cs_row p (l + 1) (half l false t)
    have h2 := cs_row p (l + 1) (half l true t)
    split <;> omega
  | some c :: p, l, t => by
    rw [List.length_cons, cs, rc, half_row_some, half_row_some]
    have h1 := cs_row p (l + 1) (half l c t)
    have z : ∀ (m k : Nat) (x : BT), cs m k x (leaf false) = 0 := fun m k x => cs_term (term_nil_r x)
    cases c with
    | true =>
      simp only [Bool.false_eq_true, if_false, if_true, z]
      split <;> omega
    | false =>
      simp only [Bool.true_eq_false, if_false, if_true, z]
      split <;> omega
def stars : Pat → Nat
  | [] => 0
  | none :: p => stars p + 1
  | some _ :: p => stars p
theorem rc_stars : ∀ p : Pat, rc p + 2 ≤ 2 * (p.length + 1) * 2 ^ stars p
  | [] => by simp [rc, stars]
  | none :: p => by
    have ih := rc_stars p
    rw [rc, stars, List.length_cons, Nat.pow_succ]
    have : 2 * (p.length + 1 + 1) * (2 ^ stars p * 2) = 2 * (2 * (p.length + 1) * 2 ^ stars p) + 4 * 2 ^ stars p := by
      rw [show 2 * (p.length + 1 + 1) = 2 * (p.length + 1) + 2 by omega, Nat.add_mul, ← Nat.mul_assoc]
      omega
    omega
  | some _ :: p => by
    have ih := rc_stars p
    rw [rc, stars, List.length_cons]
    have h1 : 1 ≤ 2 ^ stars p := Nat.one_le_two_pow
    have : 2 * (p.length + 1 + 1) * 2 ^ stars p = 2 * (p.length + 1) * 2 ^ stars p + 2 * 2 ^ stars p := by
      rw [show 2 * (p.length + 1 + 1) = 2 * (p.length + 1) + 2 by omega, Nat.add_mul]
    omega
theorem rc_pow : ∀ p : Pat, rc p + 2 ≤ 2 ^ (p.length + 1)
  | [] => by simp [rc]
  | none :: p => by
    have ih := rc_pow p
    rw [rc, List.length_cons, Nat.pow_succ]
    omega
  | some _ :: p => by
    have ih := rc_pow p
    rw [rc, List.length_cons, Nat.pow_succ]
    have h3 : 2 ≤ 2 ^ (p.length + 1) := by
      have : 2 ^ 1 ≤ 2 ^ (p.length + 1) := Nat.pow_le_pow_right (by decide) (by omega)
      simpa using this
    omega
/-- what the trees of patterns, put together, take in -/
def pcost : List Pat → Nat
  | [] => 0
  | p :: ps => p.length + rc p + pcost ps
theorem sum_stars : ∀ (n l : Nat) (t : BT), ((pats n l t).map fun p => 2 ^ stars p).sum ≤ 2 ^ n
  | 0, l, t => by
    unfold pats
    split
    · simp
    · simp [stars]
  | n + 1, l, t => by
    have h1 := sum_stars n (l + 1) (half l false t)
    have h2 := sum_stars n (l + 1) (half l true t)
    unfold pats
    rw [Nat.pow_succ]
    split
    · simp
    · split
      · rw [List.map_map]
        have e : ((pats n (l + 1) (half l false t)).map ((fun p => 2 ^ stars p) ∘ fun x => none :: x)).sum = 2 * ((pats n (l + 1) (half l false t)).map fun p => 2 ^ stars p).sum := by
          generalize pats n (l + 1) (half l false t) = ps
          induction ps with
          | nil => rfl
          | cons p ps ih =>
            rw [List.map_cons, List.sum_cons, ih, List.map_cons, List.sum_cons]
            show 2 ^ (stars p + 1) + _ = _
            rw [Nat.pow_succ]
            omega
        rw [e]; omega
      · rw [List.map_append, List.sum_append, List.map_map, List.map_map]
        have e : ∀ (b : Bool) (ps : List Pat), (ps.map ((fun p => 2 ^ stars p) ∘ fun x => some b :: x)).sum = (ps.map fun p => 2 ^ stars p).sum := by
          intro b ps
          rfl
        rw [e, e]; omega
theorem pcost_le (L : Nat) : ∀ (ps : List Pat), (∀ p ∈ ps, p.length = L) → pcost ps ≤ L * ps.length + 2 * (L + 1) * (ps.map fun p => 2 ^ stars p).sum
  | [], _ => by simp [pcost]
  | p :: ps, h => by
    have ih := pcost_le L ps fun q hq => h q (List.mem_cons_of_mem _ hq)
    have h1 := rc_stars p
    rw [h p List.mem_cons_self] at h1
    rw [pcost, h p List.mem_cons_self, List.length_cons, List.map_cons, List.sum_cons, Nat.mul_add, Nat.mul_add]
    omega
theorem pcost_pats {L : Nat} {t : BT} (hL : L ≤ 16) (h : (pats L 0 t).length ≤ 4000) : pcost (pats L 0 t) ≤ 2292224 + 64000 := by
  have h1 := pcost_le L (pats L 0 t) (pats_width L 0 t)
  have h2 := sum_stars L 0 t
  have h3 : 2 ^ L ≤ 2 ^ 16 := Nat.pow_le_pow_right (by decide) hL
  have h4 : L * (pats L 0 t).length ≤ 16 * 4000 := Nat.mul_le_mul hL h
  have h5 : 2 * (L + 1) * ((pats L 0 t).map fun p => 2 ^ stars p).sum ≤ 34 * 2 ^ 16 := Nat.mul_le_mul (by omega) (by omega)
  have h6 : (34 : Nat) * 2 ^ 16 = 2228224 := by decide
  omega
theorem pcost_few {L : Nat} {ps : List Pat} (hL : L ≤ 16) (h : ∀ p ∈ ps, p.length = L) : pcost ps ≤ 131090 * ps.length := by
  induction ps with
  | nil => exact Nat.le_refl _
  | cons p ps ih =>
    have ih := ih fun q hq => h q (List.mem_cons_of_mem _ hq)
    have h1 := rc_pow p
    have h0 := h p List.mem_cons_self
    rw [h0] at h1
    have h2 : 2 ^ (L + 1) ≤ 2 ^ 17 := Nat.pow_le_pow_right (by decide) (by omega)
    have h3 : (2 : Nat) ^ 17 = 131072 := by decide
    rw [pcost, List.length_cons, h0]
    omega
/-! ### rest, freed -/
/-- what freed takes in -/
def cf : Nat → Nat
  | 0 => 0
  | m + 1 => 2 + 2 * cf m + 2 ^ (m + 1)
theorem cf16 : ∀ m : Nat, m ≤ 16 → cf m ≤ 1300000 := by decide
theorem cf_mono : ∀ {m k : Nat}, m ≤ k → cf m ≤ cf k
  | m, 0, h => by rw [Nat.le_zero.mp h]; exact Nat.le_refl _
  | m, k + 1, h => by
    rcases Nat.lt_or_ge m (k + 1) with q | q
    · have := cf_mono (m := m) (k := k) (by omega)
      show _ ≤ 2 + 2 * cf k + 2 ^ (k + 1)
      generalize 2 ^ (k + 1) = z
      omega
    · rw [show m = k + 1 by omega]; exact Nat.le_refl _
end BT
end Wv

end
section
set_option maxRecDepth 100000
set_option maxHeartbeats 8000000
/-! The methods of Trees: both, either, rest. Printed from K73T2.tpl by tm.py. -/
namespace Wv
open PySem PySem.Spec PyProof.Rows L2
theorem dec_t {i j : Nat} (c : decide (V.int (i : Int) = V.int (j : Int)) = true) : i = j := by
  have := of_decide_eq_true c
  injection this with z
  omega
theorem dec_f {i j : Nat} (c : ¬ decide (V.int (i : Int) = V.int (j : Int)) = true) : i ≠ j := fun e => c (by rw [e]; simp)
theorem two_of {xs : List V} {x y : V} : [x, y].length = 2 := rfl
/-- what both, either tell of two trees: op is what they tell, m a bound of the calls -/
def spTwo (P : Program) (w : World) (C : Addr) (op : Nat → BT → BT → BT) (m : Nat) : Sp := fun vs H Q _ => ∃ (p : Addr) (A : TA) (L : Nat) (S : Sto) (n l i j : Nat) (t u : BT), vs = [.ref p, .int i, .int j] ∧ TAt P w C H p A L S n ∧ L < l + m ∧ L ≤ 16 ∧
  S.ts[i]? = some t ∧ S.ts[j]? = some u ∧ l ≤ BT.lev L t ∧ l ≤ BT.lev L u ∧ n + BT.cs (L - l) l t u ≤ cap ∧
  ∀ (k : Nat) (S' : Sto) (H' : Hp), TAt P w C H' p A L S' (n + BT.cs (L - l) l t u) → Ext S S' → Keeps (fps A) H H' → S'.ts[k]? = some (op L t u) → Q (.int k) H'
theorem keyH_two {H : Hp} {q : Addr} {x : Str} {i j : Nat} (h : H q = some (.tup [.str x, .int i, .int j])) : KeyH H (kTwo x i j) (.ref q) := by
  rw [kTwo, KeyH]
  refine ⟨q, _, rfl, h, ?_⟩
  rw [KeysH]
  refine ⟨_, _, rfl, by rw [KeyH], ?_⟩
  rw [KeysH]
  refine ⟨_, _, rfl, by rw [KeyH], ?_⟩
  rw [KeysH]
  refine ⟨_, _, rfl, by rw [KeyH], ?_⟩
  rw [KeysH]
theorem keyH_one {H : Hp} {q : Addr} {x : Str} {i : Nat} (h : H q = some (.tup [.str x, .int i])) : KeyH H (kOne x i) (.ref q) := by
  rw [kOne, KeyH]
  refine ⟨q, _, rfl, h, ?_⟩
  rw [KeysH]
  refine ⟨_, _, rfl, by rw [KeyH], ?_⟩
  rw [KeysH]
  refine ⟨_, _, rfl, by rw [KeyH], ?_⟩
  rw [KeysH]
/-- an answer is told at the key -/
theorem TAt.told {P : Program} {w : World} {C : Addr} {H : Hp} {p : Addr} {A : TA} {L : Nat} {S : Sto} {n : Nat} (st : TAt P w C H p A L S n) {tk' : List (NestedKey × V)} {o : HO} (nd : NDict P w (upd H A.td o) A.td tk') (nt : ∀ ps, o ≠ .tbl ps) (mk : Mok L S tk') (hl : tk'.length ≤ n + 1) :
    TAt P w C (upd H A.td o) p A L S (n + 1) := by
  obtain ⟨kvs, e1, kk⟩ := st.kn
  obtain ⟨xs, e2⟩ := st.tdn
  have a1 : p ≠ A.td := ne_of st.ob e2 (by intro z; cases z)
  have a2 : A.lv ≠ A.td := ne_of st.lv e2 (by intro z; cases z)
  have a3 : A.lo ≠ A.td := ne_of st.lo e2 (by intro z; cases z)
  have a4 : A.hi ≠ A.td := ne_of st.hi e2 (by intro z; cases z)
  have a5 : A.kn ≠ A.td := ne_of e1 e2 (by intro z; cases z)
  exact ⟨by rw [upd_ne a1]; exact st.ob, by rw [upd_ne a2]; exact st.lv, by rw [upd_ne a3]; exact st.lo, by rw [upd_ne a4]; exact st.hi, st.ne, st.ok, ⟨kvs, by rw [upd_ne a5]; exact e1, kk⟩, ⟨tk', nd, mk, hl⟩, by have := st.sz; omega⟩
theorem term_of {S : Sto} {L : Nat} (ok : Sok L S) {i j : Nat} {t u : BT} (hi : S.ts[i]? = some t) (hj : S.ts[j]? = some u) (h0 : i ≠ 0) (h1 : j ≠ 0) (h2 : i ≠ 1) (h3 : i ≠ j) (h4 : j ≠ 1) : BT.term t u = false := by
  have e0 := fun e => h0 ((ok.is0 hi).mpr e)
  have e1 := fun e => h1 ((ok.is0 hj).mpr e)
  have e2 := fun e => h2 ((ok.is1 hi).mpr e)
  have e3 := fun e => h3 ((ok.eq hi hj).mpr e)
  have e4 := fun e => h4 ((ok.is1 hj).mpr e)
  simp [BT.term]
  exact ⟨⟨⟨⟨e0, e1⟩, e2⟩, e3⟩, e4⟩
theorem lev_lt {L : Nat} {t : BT} (g : BT.Good L t) (h0 : t ≠ .leaf false) (h1 : t ≠ .leaf true) : BT.lev L t < L := by
  cases t with
  | leaf b => cases b <;> simp at h0 h1
  | node m a b => exact g.1
section
variable {P : Program} {w : World} {K : PySem.W.Frag} {mg : Str → Option Value} {base h : Heap} (T : Tp K mg w h)
include T
theorem ok_Trees_both (m : Nat) : FnR P w K mg base CX0 (m + 1) (TM K "both") (spTwo P w (TC K) BT.conj m) := by
  induction m with
  | zero =>
    intro AA outer s H us vs Q E hr e0 r h
    obtain ⟨p, A, L, S, n, l, i, j, t, u, rfl, st, hm, h16, hi, hj, hl1, hl2, hc, k⟩ := h
    exact absurd (BT.lev_le (st.ok.g hi)) (by omega)
  | succ m ih =>
  refine fnR0_of T.F_Trees_both sc_Trees_both (fun _ _ _ _ _ _ us hl => match us, hl with | [_, _, _], _ => rfl) (fun vs H Q E h => ?_) (fun cdv AA outer s H vs Q E hr h => ?_)
  · obtain ⟨p, A, L, S, n, l, i, j, t, u, rfl, _⟩ := h
    rfl
  obtain ⟨p, A, L, S, n, l, i, j, t, u, rfl, st, hm, h16, hi, hj, hl1, hl2, hc, k⟩ := h
  have hu := hu_of hr
  have hu9 := hu9_of hr
  have hr1 : Room 1 _ := hr.mono (Nat.le_add_left 1 m)
  have gt := st.ok.g hi
  have gu := st.ok.g hj
  refine ⟨_, (pss_cons (ps_if (PW.pt (pw_or (pt_cmpR op_eq (pv 1) (pe_gint T.i_NOTHING) (nomark _)) (pw_or1 (pt_cmpR op_eq (pv 2) (pe_gint T.i_NOTHING) (nomark _))))) (pss_one (ps_ret (pe_gint T.i_NOTHING))) pss_nil)
      (pss_cons (ps_if (PW.pt (pw_or (pt_cmpR op_eq (pv 1) (pe_gint T.i_ALL) (nomark _)) (pw_or1 (pt_cmpR op_eq (pv 1) (pv 2) (nomark _))))) (pss_one (ps_ret (pv 2))) pss_nil)
      (pss_cons (ps_if (pt_cmpR op_eq (pv 2) (pe_gint T.i_ALL) (nomark _)) (pss_one (ps_ret (pv 1))) pss_nil)
      (pss_cons (ps_set (i := 3) sc_Trees_both.nd rfl (Or.inl rfl) (pe_tup (pa_cons pe_str (pa_cons (pe_callB (call_min2 rfl) (by rfl) T.z_min (by decide +kernel) (pa_cons (pv 1) (pa_cons (pv 2) pa_nil))) (pa_cons (pe_callB (call_max2 rfl) (by rfl) T.z_max (by decide +kernel) (pa_cons (pv 1) (pa_cons (pv 2) pa_nil))) pa_nil)))))
      (pss_cons (ps_if (pt_cmp (pc_nnotin hu9 (pv 3) (pe_fld (pv 0) rfl))) (pss_cons (ps_set (i := 4) sc_Trees_both.nd rfl (Or.inl rfl) (pe_callB (call_min2 rfl) (by rfl) T.z_min (by decide +kernel) (pa_cons (pe_ix ix_list (pe_fld (pv 0) rfl) (pv 1) (fun _ _ => rfl)) (pa_cons (pe_ix ix_list (pe_fld (pv 0) rfl) (pv 2) (fun _ _ => rfl)) pa_nil))))
      (pss_cons (ps_asg (pe_methR (pv 0) T.cl_Trees T.m_Trees_halves (ok_Trees_halves T) hr1 pass0 (pa_cons (pv 1) (pa_cons (pv 4) pa_nil))) (pg_tup (by rfl) (pgs_cons (pg_name (i := 5) sc_Trees_both.nd rfl (Or.inl rfl)) (pgs_cons (pg_name (i := 6) sc_Trees_both.nd rfl (Or.inl rfl)) pgs_nil))))
      (pss_cons (ps_asg (pe_methR (pv 0) T.cl_Trees T.m_Trees_halves (ok_Trees_halves T) hr1 pass0 (pa_cons (pv 2) (pa_cons (pv 4) pa_nil))) (pg_tup (by rfl) (pgs_cons (pg_name (i := 7) sc_Trees_both.nd rfl (Or.inl rfl)) (pgs_cons (pg_name (i := 8) sc_Trees_both.nd rfl (Or.inl rfl)) pgs_nil))))
      (pss_one (ps_nput hu9 (pe_fld (pv 0) rfl) (pv 3) (pe_methR (pv 0) T.cl_Trees T.m_Trees_node (ok_Trees_node T) hr1 pass0 (pa_cons (pv 4) (pa_cons (pe_methR (pv 0) T.cl_Trees T.m_Trees_both (ih) hr pass0 (pa_cons (pv 5) (pa_cons (pv 7) pa_nil))) (pa_cons (pe_methR (pv 0) T.cl_Trees T.m_Trees_both (ih) hr pass0 (pa_cons (pv 6) (pa_cons (pv 8) pa_nil))) pa_nil)))) rfl))))) pss_nil)
      (pss_one (ps_ret (pe_nget hu9 (pe_fld (pv 0) rfl) (pv 3) (fun _ _ => rfl))))))))), ?_⟩
  have C := T.cl_Trees
  have same : ∀ x : Nat, S.ts[x]? = some (BT.conj L t u) → Q (.int x) H := fun x hx => k x S H (st.mono (by omega)) (Ext.refl S) (Keeps.refl _ _) hx
  refine ⟨_, rfl, rfl, _, rfl, ?_⟩
  refine ite2 (fun c => iteT (same 0 ?_)) (fun c => ?_)
  · rw [(st.ok.is0 hi).mp (dec_t (j := 0) c), BT.conj_nil_l]; exact st.ok.z
  have i0 := dec_f (j := 0) c
  refine ⟨_, rfl, rfl, _, rfl, ?_⟩
  refine ite2 (fun c => same 0 ?_) (fun c => ?_)
  · rw [(st.ok.is0 hj).mp (dec_t (j := 0) c), BT.conj_nil_r]; exact st.ok.z
  have j0 := dec_f (j := 0) c
  refine ⟨_, rfl, rfl, _, rfl, ?_⟩
  refine ite2 (fun c => iteT ⟨_, rfl, same j ?_⟩) (fun c => ?_)
  · rw [(st.ok.is1 hi).mp (dec_t (j := 1) c), BT.conj_all_l gu]; exact hj
  have i1 := dec_f (j := 1) c
  refine ⟨_, rfl, _, rfl, rfl, _, rfl, ?_⟩
  refine ite2 (fun c => ⟨_, rfl, same j ?_⟩) (fun c => ?_)
  · rw [(st.ok.eq hi hj).mp (dec_t c), BT.conj_self gu]; exact hj
  have ij := dec_f c
  refine ⟨_, rfl, rfl, _, rfl, ?_⟩
  refine ite2 (fun c => ⟨_, rfl, same i ?_⟩) (fun c => ?_)
  · rw [(st.ok.is1 hj).mp (dec_t (j := 1) c), BT.conj_all_r gt]; exact hi
  have j1 := dec_f (j := 1) c
  have tm := term_of st.ok hi hj i0 j0 i1 ij j1
  have lt : BT.lev L t < L := lev_lt gt (fun e => i0 ((st.ok.is0 hi).mpr e)) (fun e => i1 ((st.ok.is1 hi).mpr e))
  -- key = ('both', min(one, other), max(one, other))
  refine ⟨_, rfl, _, rfl, _, _, rfl, _, rfl, _, rfl, _, _, rfl, (by show 3 ≤ sizeLine; decide), fun q hq => ?_⟩
  rw [show (if (j : Int) < (i : Int) then (j : Int) else (i : Int)) = ((min i j : Nat) : Int) by split <;> omega, show (if (j : Int) > (i : Int) then (j : Int) else (i : Int)) = ((max i j : Nat) : Int) by split <;> omega]
  have st1 := st.new hq (.tup [.str "both", .int (min i j : Nat), .int (max i j : Nat)])
  have kt : upd H q (.tup [.str "both", .int (min i j : Nat), .int (max i j : Nat)]) q = some (.tup [.str "both", .int (min i j : Nat), .int (max i j : Nat)]) := upd_same
  have K1 : Keeps (fps A) H (upd H q (.tup [.str "both", .int (min i j : Nat), .int (max i j : Nat)])) := Keeps.new hq _
  generalize upd H q (.tup [.str "both", .int (min i j : Nat), .int (max i j : Nat)]) = H1 at st1 kt K1 ⊢
  obtain ⟨tk, nd, mk, hl⟩ := st1.td
  have hd : (kTwo "both" (min i j) (max i j)).depth ≤ 8 := by simp [NestedKey.depth, NestedKey.depthAll]
  obtain ⟨x, y, hx, hy, hxy⟩ : ∃ x y : BT, S.ts[min i j]? = some x ∧ S.ts[max i j]? = some y ∧ BT.conj L x y = BT.conj L t u := by
    rcases Nat.le_total i j with z | z
    · exact ⟨t, u, by rw [Nat.min_eq_left z]; exact hi, by rw [Nat.max_eq_right z]; exact hj, rfl⟩
    · exact ⟨u, t, by rw [Nat.min_eq_right z]; exact hj, by rw [Nat.max_eq_left z]; exact hi, BT.conj_comm u t⟩
  refine ⟨_, rfl, _, rfl, p, _, _, _, _, rfl, st1.ob, C, T.n_Trees_own_told, f_told _ _, A.td, q, tk, _, rfl, rfl, nd, keyH_two kt, hd, _, rfl, ?_⟩
  cases e : valV tk (kTwo "both" (min i j) (max i j)) with
  | some v =>
    obtain ⟨z, rfl, hz⟩ := mk.both _ _ x y hx hy v e
    refine iteF ?_
    refine ⟨_, rfl, p, _, _, _, _, rfl, st1.ob, C, T.n_Trees_own_told, f_told _ _, _, rfl, A.td, q, tk, _, _, rfl, rfl, nd, keyH_two kt, hd, e, ?_⟩
    exact k z S H1 (st1.mono (by omega)) (Ext.refl S) K1 (by rw [← hxy]; exact hz)
  | none =>
    refine iteT ?_
    -- level = min(self.own_level[one], self.own_level[other])
    refine ⟨_, rfl, p, _, _, _, _, rfl, st1.ob, C, T.n_Trees_own_level, f_level _ _, _, rfl, A.lv, _, _, _, rfl, rfl, SqL.of st1.lv, atI_lev hi, ?_⟩
    refine ⟨_, rfl, p, _, _, _, _, rfl, st1.ob, C, T.n_Trees_own_level, f_level _ _, _, rfl, A.lv, _, _, _, rfl, rfl, SqL.of st1.lv, atI_lev hj, _, _, rfl, ?_⟩
    rw [show (if ((BT.lev L u : Nat) : Int) < ((BT.lev L t : Nat) : Int) then ((BT.lev L u : Nat) : Int) else ((BT.lev L t : Nat) : Int)) = ((min (BT.lev L t) (BT.lev L u) : Nat) : Int) by split <;> omega]
    have v1 : min (BT.lev L t) (BT.lev L u) ≤ BT.lev L t := Nat.min_le_left _ _
    have v2 : min (BT.lev L t) (BT.lev L u) ≤ BT.lev L u := Nat.min_le_right _ _
    have v0 : l ≤ min (BT.lev L t) (BT.lev L u) := Nat.le_min.mpr ⟨hl1, hl2⟩
    generalize min (BT.lev L t) (BT.lev L u) = v at v0 v1 v2 ⊢
    have vL : v < L := by omega
    have cost := BT.cs_step (L := L) (l := l) (k := v) tm v0 v1 v2 vL
    -- low, high = self.halves(one, level); less, more = self.halves(other, level)
    refine ⟨_, rfl, p, _, _, rfl, st1.ob, no_halves _ _, _, rfl, _, rfl, p, A, L, S, n, v, i, t, rfl, st1, hi, vL, fun a1 a2 q1 ha1 ha2 hq1 => ?_⟩
    refine ⟨q1, _, rfl, SqT.of upd_same, rfl, _, _, rfl, _, _, rfl, rfl, ?_⟩
    have st2 := st1.new hq1 (.tup [.int a1, .int a2])
    have K2 : Keeps (fps A) H1 (upd H1 q1 (.tup [.int a1, .int a2])) := Keeps.new hq1 _
    generalize upd H1 q1 (.tup [.int a1, .int a2]) = H2 at st2 K2 ⊢
    refine ⟨_, rfl, p, _, _, rfl, st2.ob, no_halves _ _, _, rfl, _, rfl, p, A, L, S, n, v, j, u, rfl, st2, hj, vL, fun b1 b2 q2 hb1 hb2 hq2 => ?_⟩
    refine ⟨q2, _, rfl, SqT.of upd_same, rfl, _, _, rfl, _, _, rfl, rfl, ?_⟩
    have st3 := st2.new hq2 (.tup [.int b1, .int b2])
    have K3 : Keeps (fps A) H2 (upd H2 q2 (.tup [.int b1, .int b2])) := Keeps.new hq2 _
    generalize upd H2 q2 (.tup [.int b1, .int b2]) = H3 at st3 K3 ⊢
    have lv1 := BT.half_lev gt vL v1
    have lv2 := BT.half_lev gu vL v2
    -- self.node(level, self.both(low, less), self.both(high, more))
    refine ⟨_, rfl, p, _, _, rfl, st3.ob, no_node _ _, _, rfl, ?_⟩
    refine ⟨_, rfl, p, _, _, rfl, st3.ob, no_both _ _, _, rfl, _, rfl, p, A, L, S, n, v + 1, a1, b1, _, _, rfl, st3, (by omega), h16, ha1, hb1, lv1 false, lv2 false, (by omega), fun c1 S4 H4 st4 E4 K4 hc1 => ?_⟩
    refine ⟨_, rfl, p, _, _, rfl, st4.ob, no_both _ _, _, rfl, _, rfl, p, A, L, S4, _, v + 1, a2, b2, _, _, rfl, st4, (by omega), h16, E4 _ _ ha2, E4 _ _ hb2, lv1 true, lv2 true, (by omega), fun c2 S5 H5 st5 E5 K5 hc2 => ?_⟩
    refine ⟨p, A, L, S5, _, v, c1, c2, _, _, rfl, st5, (by omega), E5 _ _ hc1, hc2, vL, BT.conj_lev (BT.half_good gt _) (BT.half_good gu _) vL (lv1 false) (lv2 false), BT.conj_lev (BT.half_good gt _) (BT.half_good gu _) vL (lv1 true) (lv2 true), fun c3 S6 H6 st6 E6 K6 hc3 => ?_⟩
    rw [← BT.conj_step gt gu vL v1 v2] at hc3
    have EE : Ext S S6 := (E4.trans E5).trans E6
    have KK : Keeps (fps A) H H6 := (((K1.trans K2).trans K3).trans (K4.trans K5)).trans K6
    have kt6 := ((K2.trans K3).trans ((K4.trans K5).trans K6)).tup kt (st1.tup_ne kt)
    obtain ⟨tk6, nd6, mk6, hl6⟩ := st6.td
    refine ⟨_, rfl, p, _, _, _, _, rfl, st6.ob, C, T.n_Trees_own_told, f_told _ _, _, rfl, A.td, q, tk6, _, rfl, rfl, nd6, keyH_two kt6, hd, cap_line (by omega), fun o nd7 nt => ?_⟩
    have hmi : min i j < S6.ts.length := (List.getElem?_eq_some_iff.mp (EE _ _ hx)).1
    have hmj : max i j < S6.ts.length := (List.getElem?_eq_some_iff.mp (EE _ _ hy)).1
    have mk7 : Mok L S6 (putK tk6 (kTwo "both" (min i j) (max i j)) (.int c3)) := by
      refine mk6.put hmi (fun j' hj' => ?_) (fun j' a b _ hj' ha hb => ?_) (fun j' a b hx' _ _ _ => absurd hx' (by decide +kernel)) (fun a hx' _ _ => absurd hx' (by decide +kernel)) (fun a ls hx' _ _ => absurd hx' (by decide +kernel))
      · simp only [List.cons.injEq, NestedKey.num.injEq, and_true] at hj'
        omega
      · simp only [List.cons.injEq, NestedKey.num.injEq, and_true] at hj'
        have ej : j' = max i j := by omega
        subst ej
        have e1 : a = x := Option.some.inj (ha.symm.trans (EE _ _ hx))
        have e2 : b = y := Option.some.inj (hb.symm.trans (EE _ _ hy))
        subst e1 e2
        exact ⟨c3, rfl, by rw [hxy]; exact hc3⟩
    have hl7 := length_putK tk6 (kTwo "both" (min i j) (max i j)) (.int c3)
    have st7 := st6.told nd7 nt mk7 (by omega)
    have K7 : Keeps (fps A) H6 (upd H6 A.td o) := Keeps.upd_mem (by simp [fps]) o
    have kt7 := K7.tup kt6 (st6.tup_ne kt6)
    refine ⟨_, rfl, p, _, _, _, _, rfl, st7.ob, C, T.n_Trees_own_told, f_told _ _, _, rfl, A.td, q, _, _, .int c3, rfl, rfl, nd7, keyH_two kt7, hd, (by rw [valV_put, if_pos rfl]), ?_⟩
    exact k c3 S6 _ (st7.mono (by omega)) EE (KK.trans K7) hc3
end
end Wv

end
section
set_option maxRecDepth 100000
set_option maxHeartbeats 8000000
/-! The methods of Trees: either, rest. Printed from K73T3.tpl by tm.py. -/
namespace Wv
open PySem PySem.Spec PyProof.Rows L2
/-- what rest tells of a tree -/
def spRest (P : Program) (w : World) (C : Addr) (m : Nat) : Sp := fun vs H Q _ => ∃ (p : Addr) (A : TA) (L : Nat) (S : Sto) (n l i : Nat) (t : BT), vs = [.ref p, .int i] ∧ TAt P w C H p A L S n ∧ L < l + m ∧ L ≤ 16 ∧
  S.ts[i]? = some t ∧ l ≤ BT.lev L t ∧ n + 2 ^ (L - l + 1) ≤ cap + 2 ∧
  ∀ (k : Nat) (S' : Sto) (H' : Hp), TAt P w C H' p A L S' (n + 2 ^ (L - l + 1) - 2) → Ext S S' → Keeps (fps A) H H' → S'.ts[k]? = some (BT.neg L t) → Q (.int k) H'
theorem pow_two_le {a b : Nat} (h : a ≤ b) : 2 ^ a ≤ 2 ^ b := Nat.pow_le_pow_right (by decide) h
theorem inV_ends (i : Nat) : inV (.int (i : Int)) [.int 0, .int 1] = decide (i = 0 ∨ i = 1) := by
  have e1 : eqV (.int 0) (.int (i : Int)) = decide ((0 : Int) = (i : Int)) := rfl
  have e2 : eqV (.int 1) (.int (i : Int)) = decide ((1 : Int) = (i : Int)) := rfl
  unfold inV
  rw [List.any_cons, List.any_cons, List.any_nil, e1, e2, Bool.or_false, ← Bool.decide_or]
  apply decide_eq_decide.mpr
  omega
section
variable {P : Program} {w : World} {K : PySem.W.Frag} {mg : Str → Option Value} {base h : Heap} (T : Tp K mg w h)
include T
theorem ok_Trees_either (m : Nat) : FnR P w K mg base CX0 (m + 1) (TM K "either") (spTwo P w (TC K) BT.disj m) := by
  induction m with
  | zero =>
    intro AA outer s H us vs Q E hr e0 r h
    obtain ⟨p, A, L, S, n, l, i, j, t, u, rfl, st, hm, h16, hi, hj, hl1, hl2, hc, k⟩ := h
    exact absurd (BT.lev_le (st.ok.g hi)) (by omega)
  | succ m ih =>
  refine fnR0_of T.F_Trees_either sc_Trees_either (fun _ _ _ _ _ _ us hl => match us, hl with | [_, _, _], _ => rfl) (fun vs H Q E h => ?_) (fun cdv AA outer s H vs Q E hr h => ?_)
  · obtain ⟨p, A, L, S, n, l, i, j, t, u, rfl, _⟩ := h
    rfl
  obtain ⟨p, A, L, S, n, l, i, j, t, u, rfl, st, hm, h16, hi, hj, hl1, hl2, hc, k⟩ := h
  have hu := hu_of hr
  have hu9 := hu9_of hr
  have hr1 : Room 1 _ := hr.mono (Nat.le_add_left 1 m)
  have gt := st.ok.g hi
  have gu := st.ok.g hj
  refine ⟨_, (pss_cons (ps_if (PW.pt (pw_or (pt_cmpR op_eq (pv 1) (pe_gint T.i_ALL) (nomark _)) (pw_or1 (pt_cmpR op_eq (pv 2) (pe_gint T.i_ALL) (nomark _))))) (pss_one (ps_ret (pe_gint T.i_ALL))) pss_nil)
      (pss_cons (ps_if (PW.pt (pw_or (pt_cmpR op_eq (pv 1) (pe_gint T.i_NOTHING) (nomark _)) (pw_or1 (pt_cmpR op_eq (pv 1) (pv 2) (nomark _))))) (pss_one (ps_ret (pv 2))) pss_nil)
      (pss_cons (ps_if (pt_cmpR op_eq (pv 2) (pe_gint T.i_NOTHING) (nomark _)) (pss_one (ps_ret (pv 1))) pss_nil)
      (pss_cons (ps_set (i := 3) sc_Trees_either.nd rfl (Or.inl rfl) (pe_tup (pa_cons pe_str (pa_cons (pe_callB (call_min2 rfl) (by rfl) T.z_min (by decide +kernel) (pa_cons (pv 1) (pa_cons (pv 2) pa_nil))) (pa_cons (pe_callB (call_max2 rfl) (by rfl) T.z_max (by decide +kernel) (pa_cons (pv 1) (pa_cons (pv 2) pa_nil))) pa_nil)))))
      (pss_cons (ps_if (pt_cmp (pc_nnotin hu9 (pv 3) (pe_fld (pv 0) rfl))) (pss_cons (ps_set (i := 4) sc_Trees_either.nd rfl (Or.inl rfl) (pe_callB (call_min2 rfl) (by rfl) T.z_min (by decide +kernel) (pa_cons (pe_ix ix_list (pe_fld (pv 0) rfl) (pv 1) (fun _ _ => rfl)) (pa_cons (pe_ix ix_list (pe_fld (pv 0) rfl) (pv 2) (fun _ _ => rfl)) pa_nil))))
      (pss_cons (ps_asg (pe_methR (pv 0) T.cl_Trees T.m_Trees_halves (ok_Trees_halves T) hr1 pass0 (pa_cons (pv 1) (pa_cons (pv 4) pa_nil))) (pg_tup (by rfl) (pgs_cons (pg_name (i := 5) sc_Trees_either.nd rfl (Or.inl rfl)) (pgs_cons (pg_name (i := 6) sc_Trees_either.nd rfl (Or.inl rfl)) pgs_nil))))
      (pss_cons (ps_asg (pe_methR (pv 0) T.cl_Trees T.m_Trees_halves (ok_Trees_halves T) hr1 pass0 (pa_cons (pv 2) (pa_cons (pv 4) pa_nil))) (pg_tup (by rfl) (pgs_cons (pg_name (i := 7) sc_Trees_either.nd rfl (Or.inl rfl)) (pgs_cons (pg_name (i := 8) sc_Trees_either.nd rfl (Or.inl rfl)) pgs_nil))))
      (pss_one (ps_nput hu9 (pe_fld (pv 0) rfl) (pv 3) (pe_methR (pv 0) T.cl_Trees T.m_Trees_node (ok_Trees_node T) hr1 pass0 (pa_cons (pv 4) (pa_cons (pe_methR (pv 0) T.cl_Trees T.m_Trees_either (ih) hr pass0 (pa_cons (pv 5) (pa_cons (pv 7) pa_nil))) (pa_cons (pe_methR (pv 0) T.cl_Trees T.m_Trees_either (ih) hr pass0 (pa_cons (pv 6) (pa_cons (pv 8) pa_nil))) pa_nil)))) rfl))))) pss_nil)
      (pss_one (ps_ret (pe_nget hu9 (pe_fld (pv 0) rfl) (pv 3) (fun _ _ => rfl))))))))), ?_⟩
  have C := T.cl_Trees
  have same : ∀ x : Nat, S.ts[x]? = some (BT.disj L t u) → Q (.int x) H := fun x hx => k x S H (st.mono (by omega)) (Ext.refl S) (Keeps.refl _ _) hx
  refine ⟨_, rfl, rfl, _, rfl, ?_⟩
  refine ite2 (fun c => iteT (same 1 ?_)) (fun c => ?_)
  · rw [(st.ok.is1 hi).mp (dec_t (j := 1) c), BT.disj_all_l]; exact st.ok.o
  have i1 := dec_f (j := 1) c
  refine ⟨_, rfl, rfl, _, rfl, ?_⟩
  refine ite2 (fun c => same 1 ?_) (fun c => ?_)
  · rw [(st.ok.is1 hj).mp (dec_t (j := 1) c), BT.disj_all_r]; exact st.ok.o
  have j1 := dec_f (j := 1) c
  refine ⟨_, rfl, rfl, _, rfl, ?_⟩
  refine ite2 (fun c => iteT ⟨_, rfl, same j ?_⟩) (fun c => ?_)
  · rw [(st.ok.is0 hi).mp (dec_t (j := 0) c), BT.disj_nil_l gu]; exact hj
  have i0 := dec_f (j := 0) c
  refine ⟨_, rfl, _, rfl, rfl, _, rfl, ?_⟩
  refine ite2 (fun c => ⟨_, rfl, same j ?_⟩) (fun c => ?_)
  · rw [(st.ok.eq hi hj).mp (dec_t c), BT.disj_self gu]; exact hj
  have ij := dec_f c
  refine ⟨_, rfl, rfl, _, rfl, ?_⟩
  refine ite2 (fun c => ⟨_, rfl, same i ?_⟩) (fun c => ?_)
  · rw [(st.ok.is0 hj).mp (dec_t (j := 0) c), BT.disj_nil_r gt]; exact hi
  have j0 := dec_f (j := 0) c
  have tm := term_of st.ok hi hj i0 j0 i1 ij j1
  have lt : BT.lev L t < L := lev_lt gt (fun e => i0 ((st.ok.is0 hi).mpr e)) (fun e => i1 ((st.ok.is1 hi).mpr e))
  -- key = ('either', min(one, other), max(one, other))
  refine ⟨_, rfl, _, rfl, _, _, rfl, _, rfl, _, rfl, _, _, rfl, (by show 3 ≤ sizeLine; decide), fun q hq => ?_⟩
  rw [show (if (j : Int) < (i : Int) then (j : Int) else (i : Int)) = ((min i j : Nat) : Int) by split <;> omega, show (if (j : Int) > (i : Int) then (j : Int) else (i : Int)) = ((max i j : Nat) : Int) by split <;> omega]
  have st1 := st.new hq (.tup [.str "either", .int (min i j : Nat), .int (max i j : Nat)])
  have kt : upd H q (.tup [.str "either", .int (min i j : Nat), .int (max i j : Nat)]) q = some (.tup [.str "either", .int (min i j : Nat), .int (max i j : Nat)]) := upd_same
  have K1 : Keeps (fps A) H (upd H q (.tup [.str "either", .int (min i j : Nat), .int (max i j : Nat)])) := Keeps.new hq _
  generalize upd H q (.tup [.str "either", .int (min i j : Nat), .int (max i j : Nat)]) = H1 at st1 kt K1 ⊢
  obtain ⟨tk, nd, mk, hl⟩ := st1.td
  have hd : (kTwo "either" (min i j) (max i j)).depth ≤ 8 := by simp [NestedKey.depth, NestedKey.depthAll]
  obtain ⟨x, y, hx, hy, hxy⟩ : ∃ x y : BT, S.ts[min i j]? = some x ∧ S.ts[max i j]? = some y ∧ BT.disj L x y = BT.disj L t u := by
    rcases Nat.le_total i j with z | z
    · exact ⟨t, u, by rw [Nat.min_eq_left z]; exact hi, by rw [Nat.max_eq_right z]; exact hj, rfl⟩
    · exact ⟨u, t, by rw [Nat.min_eq_right z]; exact hj, by rw [Nat.max_eq_left z]; exact hi, BT.disj_comm u t⟩
  refine ⟨_, rfl, _, rfl, p, _, _, _, _, rfl, st1.ob, C, T.n_Trees_own_told, f_told _ _, A.td, q, tk, _, rfl, rfl, nd, keyH_two kt, hd, _, rfl, ?_⟩
  cases e : valV tk (kTwo "either" (min i j) (max i j)) with
  | some v =>
    obtain ⟨z, rfl, hz⟩ := mk.either _ _ x y hx hy v e
    refine iteF ?_
    refine ⟨_, rfl, p, _, _, _, _, rfl, st1.ob, C, T.n_Trees_own_told, f_told _ _, _, rfl, A.td, q, tk, _, _, rfl, rfl, nd, keyH_two kt, hd, e, ?_⟩
    exact k z S H1 (st1.mono (by omega)) (Ext.refl S) K1 (by rw [← hxy]; exact hz)
  | none =>
    refine iteT ?_
    -- level = min(self.own_level[one], self.own_level[other])
    refine ⟨_, rfl, p, _, _, _, _, rfl, st1.ob, C, T.n_Trees_own_level, f_level _ _, _, rfl, A.lv, _, _, _, rfl, rfl, SqL.of st1.lv, atI_lev hi, ?_⟩
    refine ⟨_, rfl, p, _, _, _, _, rfl, st1.ob, C, T.n_Trees_own_level, f_level _ _, _, rfl, A.lv, _, _, _, rfl, rfl, SqL.of st1.lv, atI_lev hj, _, _, rfl, ?_⟩
    rw [show (if ((BT.lev L u : Nat) : Int) < ((BT.lev L t : Nat) : Int) then ((BT.lev L u : Nat) : Int) else ((BT.lev L t : Nat) : Int)) = ((min (BT.lev L t) (BT.lev L u) : Nat) : Int) by split <;> omega]
    have v1 : min (BT.lev L t) (BT.lev L u) ≤ BT.lev L t := Nat.min_le_left _ _
    have v2 : min (BT.lev L t) (BT.lev L u) ≤ BT.lev L u := Nat.min_le_right _ _
    have v0 : l ≤ min (BT.lev L t) (BT.lev L u) := Nat.le_min.mpr ⟨hl1, hl2⟩
    generalize min (BT.lev L t) (BT.lev L u) = v at v0 v1 v2 ⊢
    have vL : v < L := by omega
    have cost := BT.cs_step (L := L) (l := l) (k := v) tm v0 v1 v2 vL
    -- low, high = self.halves(one, level); less, more = self.halves(other, level)
    refine ⟨_, rfl, p, _, _, rfl, st1.ob, no_halves _ _, _, rfl, _, rfl, p, A, L, S, n, v, i, t, rfl, st1, hi, vL, fun a1 a2 q1 ha1 ha2 hq1 => ?_⟩
    refine ⟨q1, _, rfl, SqT.of upd_same, rfl, _, _, rfl, _, _, rfl, rfl, ?_⟩
    have st2 := st1.new hq1 (.tup [.int a1, .int a2])
    have K2 : Keeps (fps A) H1 (upd H1 q1 (.tup [.int a1, .int a2])) := Keeps.new hq1 _
    generalize upd H1 q1 (.tup [.int a1, .int a2]) = H2 at st2 K2 ⊢
    refine ⟨_, rfl, p, _, _, rfl, st2.ob, no_halves _ _, _, rfl, _, rfl, p, A, L, S, n, v, j, u, rfl, st2, hj, vL, fun b1 b2 q2 hb1 hb2 hq2 => ?_⟩
    refine ⟨q2, _, rfl, SqT.of upd_same, rfl, _, _, rfl, _, _, rfl, rfl, ?_⟩
    have st3 := st2.new hq2 (.tup [.int b1, .int b2])
    have K3 : Keeps (fps A) H2 (upd H2 q2 (.tup [.int b1, .int b2])) := Keeps.new hq2 _
    generalize upd H2 q2 (.tup [.int b1, .int b2]) = H3 at st3 K3 ⊢
    have lv1 := BT.half_lev gt vL v1
    have lv2 := BT.half_lev gu vL v2
    -- self.node(level, self.either(low, less), self.either(high, more))
    refine ⟨_, rfl, p, _, _, rfl, st3.ob, no_node _ _, _, rfl, ?_⟩
    refine ⟨_, rfl, p, _, _, rfl, st3.ob, no_either _ _, _, rfl, _, rfl, p, A, L, S, n, v + 1, a1, b1, _, _, rfl, st3, (by omega), h16, ha1, hb1, lv1 false, lv2 false, (by omega), fun c1 S4 H4 st4 E4 K4 hc1 => ?_⟩
    refine ⟨_, rfl, p, _, _, rfl, st4.ob, no_either _ _, _, rfl, _, rfl, p, A, L, S4, _, v + 1, a2, b2, _, _, rfl, st4, (by omega), h16, E4 _ _ ha2, E4 _ _ hb2, lv1 true, lv2 true, (by omega), fun c2 S5 H5 st5 E5 K5 hc2 => ?_⟩
    refine ⟨p, A, L, S5, _, v, c1, c2, _, _, rfl, st5, (by omega), E5 _ _ hc1, hc2, vL, BT.disj_lev (BT.half_good gt _) (BT.half_good gu _) vL (lv1 false) (lv2 false), BT.disj_lev (BT.half_good gt _) (BT.half_good gu _) vL (lv1 true) (lv2 true), fun c3 S6 H6 st6 E6 K6 hc3 => ?_⟩
    rw [← BT.disj_step gt gu vL v1 v2] at hc3
    have EE : Ext S S6 := (E4.trans E5).trans E6
    have KK : Keeps (fps A) H H6 := (((K1.trans K2).trans K3).trans (K4.trans K5)).trans K6
    have kt6 := ((K2.trans K3).trans ((K4.trans K5).trans K6)).tup kt (st1.tup_ne kt)
    obtain ⟨tk6, nd6, mk6, hl6⟩ := st6.td
    refine ⟨_, rfl, p, _, _, _, _, rfl, st6.ob, C, T.n_Trees_own_told, f_told _ _, _, rfl, A.td, q, tk6, _, rfl, rfl, nd6, keyH_two kt6, hd, cap_line (by omega), fun o nd7 nt => ?_⟩
    have hmi : min i j < S6.ts.length := (List.getElem?_eq_some_iff.mp (EE _ _ hx)).1
    have hmj : max i j < S6.ts.length := (List.getElem?_eq_some_iff.mp (EE _ _ hy)).1
    have mk7 : Mok L S6 (putK tk6 (kTwo "either" (min i j) (max i j)) (.int c3)) := by
      refine mk6.put hmi (fun j' hj' => ?_) (fun j' a b hx' _ _ _ => absurd hx' (by decide +kernel)) (fun j' a b _ hj' ha hb => ?_) (fun a hx' _ _ => absurd hx' (by decide +kernel)) (fun a ls hx' _ _ => absurd hx' (by decide +kernel))
      · simp only [List.cons.injEq, NestedKey.num.injEq, and_true] at hj'
        omega
      · simp only [List.cons.injEq, NestedKey.num.injEq, and_true] at hj'
        have ej : j' = max i j := by omega
        subst ej
        have e1 : a = x := Option.some.inj (ha.symm.trans (EE _ _ hx))
        have e2 : b = y := Option.some.inj (hb.symm.trans (EE _ _ hy))
        subst e1 e2
        exact ⟨c3, rfl, by rw [hxy]; exact hc3⟩
    have hl7 := length_putK tk6 (kTwo "either" (min i j) (max i j)) (.int c3)
    have st7 := st6.told nd7 nt mk7 (by omega)
    have K7 : Keeps (fps A) H6 (upd H6 A.td o) := Keeps.upd_mem (by simp [fps]) o
    have kt7 := K7.tup kt6 (st6.tup_ne kt6)
    refine ⟨_, rfl, p, _, _, _, _, rfl, st7.ob, C, T.n_Trees_own_told, f_told _ _, _, rfl, A.td, q, _, _, .int c3, rfl, rfl, nd7, keyH_two kt7, hd, (by rw [valV_put, if_pos rfl]), ?_⟩
    exact k c3 S6 _ (st7.mono (by omega)) EE (KK.trans K7) hc3
theorem ok_Trees_rest (m : Nat) : FnR P w K mg base CX0 (m + 1) (TM K "rest") (spRest P w (TC K) m) := by
  induction m with
  | zero =>
    intro AA outer s H us vs Q E hr e0 r h
    obtain ⟨p, A, L, S, n, l, i, t, rfl, st, hm, h16, hi, hl1, hc, k⟩ := h
    exact absurd (BT.lev_le (st.ok.g hi)) (by omega)
  | succ m ih =>
  refine fnR0_of T.F_Trees_rest sc_Trees_rest (fun _ _ _ _ _ _ us hl => match us, hl with | [_, _], _ => rfl) (fun vs H Q E h => ?_) (fun cdv AA outer s H vs Q E hr h => ?_)
  · obtain ⟨p, A, L, S, n, l, i, t, rfl, _⟩ := h
    rfl
  obtain ⟨p, A, L, S, n, l, i, t, rfl, st, hm, h16, hi, hl1, hc, k⟩ := h
  have hu := hu_of hr
  have hu9 := hu9_of hr
  have hr1 : Room 1 _ := hr.mono (Nat.le_add_left 1 m)
  have gt := st.ok.g hi
  refine ⟨_, (pss_cons (ps_if (pt_cmpR op_in_seq (pv 1) (pe_tup (pa_cons (pe_gint T.i_NOTHING) (pa_cons (pe_gint T.i_ALL) pa_nil))) (by rfl)) (pss_one (ps_ret (pe_op op_sub (pe_gint T.i_ALL) (pv 1)))) pss_nil)
      (pss_cons (ps_set (i := 2) sc_Trees_rest.nd rfl (Or.inl rfl) (pe_tup (pa_cons pe_str (pa_cons (pv 1) pa_nil))))
      (pss_cons (ps_if (pt_cmp (pc_nnotin hu9 (pv 2) (pe_fld (pv 0) rfl))) (pss_cons (ps_par (i := 3) (j := 4) (by rfl) sc_Trees_rest.nd rfl rfl (by decide) rfl rfl (pa_cons (pe_methR (pv 0) T.cl_Trees T.m_Trees_rest (ih) hr pass0 (pa_cons (pe_ix ix_list (pe_fld (pv 0) rfl) (pv 1) (fun _ _ => rfl)) pa_nil)) (pa_cons (pe_methR (pv 0) T.cl_Trees T.m_Trees_rest (ih) hr pass0 (pa_cons (pe_ix ix_list (pe_fld (pv 0) rfl) (pv 1) (fun _ _ => rfl)) pa_nil)) pa_nil)) (by rfl))
      (pss_one (ps_nput hu9 (pe_fld (pv 0) rfl) (pv 2) (pe_methR (pv 0) T.cl_Trees T.m_Trees_node (ok_Trees_node T) hr1 pass0 (pa_cons (pe_ix ix_list (pe_fld (pv 0) rfl) (pv 1) (fun _ _ => rfl)) (pa_cons (pv 3) (pa_cons (pv 4) pa_nil)))) rfl))) pss_nil)
      (pss_one (ps_ret (pe_nget hu9 (pe_fld (pv 0) rfl) (pv 2) (fun _ _ => rfl))))))), ?_⟩
  have C := T.cl_Trees
  have p2 : 2 ≤ 2 ^ (L - l + 1) := by have := pow_two_le (a := 1) (b := L - l + 1) (by omega); simpa using this
  refine ⟨_, rfl, (by show 2 ≤ sizeLine; decide), fun q0 hq0 => ?_⟩
  refine ⟨q0, _, rfl, .inr (SqT.of upd_same), rfl, rfl, _, rfl, ?_⟩
  have st0 := st.new hq0 (.tup [.int 0, .int 1])
  have K0 : Keeps (fps A) H (upd H q0 (.tup [.int 0, .int 1])) := Keeps.new hq0 _
  generalize upd H q0 (.tup [.int 0, .int 1]) = H0 at st0 K0 ⊢
  rw [inV_ends]
  refine ite2 (fun c => ?_) (fun c => ?_)
  · have c' : i = 0 ∨ i = 1 := by simpa using c
    refine ⟨_, rfl, _, _, rfl, rfl, ?_⟩
    rcases c' with rfl | rfl
    · have e : t = .leaf false := (st.ok.is0 hi).mp rfl
      exact k 1 S H0 (st0.mono (by omega)) (Ext.refl S) K0 (by rw [e, BT.neg_leaf]; exact st.ok.o)
    · have e : t = .leaf true := (st.ok.is1 hi).mp rfl
      exact k 0 S H0 (st0.mono (by omega)) (Ext.refl S) K0 (by rw [e, BT.neg_leaf]; exact st.ok.z)
  have c' : i ≠ 0 ∧ i ≠ 1 := by simpa using c
  obtain ⟨i0, i1⟩ := c'
  cases t with
  | leaf b =>
    cases b with
    | false => exact absurd ((st.ok.is0 hi).mpr rfl) i0
    | true => exact absurd ((st.ok.is1 hi).mpr rfl) i1
  | node v a b =>
  obtain ⟨vL, g1, g2, g3, ga, gb⟩ := id gt
  have hlv : l ≤ v := hl1
  obtain ⟨x, y, h1, h2, h3, h4⟩ := st0.ok.ch i v a b hi
  -- key = ('rest', tree)
  refine ⟨_, rfl, (by show 2 ≤ sizeLine; decide), fun q hq => ?_⟩
  have st1 := st0.new hq (.tup [.str "rest", .int i])
  have kt : upd H0 q (.tup [.str "rest", .int i]) q = some (.tup [.str "rest", .int i]) := upd_same
  have K1 : Keeps (fps A) H0 (upd H0 q (.tup [.str "rest", .int i])) := Keeps.new hq _
  generalize upd H0 q (.tup [.str "rest", .int i]) = H1 at st1 kt K1 ⊢
  obtain ⟨tk, nd, mk, hl⟩ := st1.td
  have hd : (kOne "rest" i).depth ≤ 8 := by simp [NestedKey.depth, NestedKey.depthAll]
  refine ⟨_, rfl, _, rfl, p, _, _, _, _, rfl, st1.ob, C, T.n_Trees_own_told, f_told _ _, A.td, q, tk, _, rfl, rfl, nd, keyH_one kt, hd, _, rfl, ?_⟩
  cases e : valV tk (kOne "rest" i) with
  | some u =>
    obtain ⟨z, rfl, hz⟩ := mk.rest i _ hi u e
    refine iteF ?_
    refine ⟨_, rfl, p, _, _, _, _, rfl, st1.ob, C, T.n_Trees_own_told, f_told _ _, _, rfl, A.td, q, tk, _, _, rfl, rfl, nd, keyH_one kt, hd, e, ?_⟩
    exact k z S H1 (st1.mono (by omega)) (Ext.refl S) (K0.trans K1) hz
  | none =>
    refine iteT ?_
    have pw : 2 ^ (L - l + 1) ≥ 2 * 2 ^ (L - (v + 1) + 1) := by
      have := pow_two_le (a := L - (v + 1) + 1 + 1) (b := L - l + 1) (by omega)
      rw [Nat.pow_succ] at this
      omega
    have pq : 2 ≤ 2 ^ (L - (v + 1) + 1) := by have := pow_two_le (a := 1) (b := L - (v + 1) + 1) (by omega); simpa using this
    -- low, high = (self.rest(self.own_low[tree]), self.rest(self.own_high[tree]))
    refine ⟨_, rfl, p, _, _, rfl, st1.ob, no_rest _ _, _, rfl, p, _, _, _, _, rfl, st1.ob, C, T.n_Trees_own_low, f_low _ _, _, rfl, A.lo, _, _, _, rfl, rfl, SqL.of st1.lo, atI_nums h1,
      p, A, L, S, n, v + 1, x, a, rfl, st1, (by omega), h16, h3, g1, (by omega), fun c1 S4 H4 st4 E4 K4 hc1 => ?_⟩
    have h2' := st4.ok.ch i v a b (E4 _ _ hi)
    obtain ⟨x', y', h1', h2', h3', h4'⟩ := h2'
    refine ⟨_, rfl, p, _, _, rfl, st4.ob, no_rest _ _, _, rfl, p, _, _, _, _, rfl, st4.ob, C, T.n_Trees_own_high, f_high _ _, _, rfl, A.hi, _, _, _, rfl, rfl, SqL.of st4.hi, atI_nums h2',
      p, A, L, S4, _, v + 1, y', b, rfl, st4, (by omega), h16, h4', g2, (by omega), fun c2 S5 H5 st5 E5 K5 hc2 => ?_⟩
    refine ⟨_, _, rfl, ?_⟩
    -- self.node(self.own_level[tree], low, high)
    refine ⟨_, rfl, p, _, _, rfl, st5.ob, no_node _ _, _, rfl, p, _, _, _, _, rfl, st5.ob, C, T.n_Trees_own_level, f_level _ _, _, rfl, A.lv, _, _, _, rfl, rfl, SqL.of st5.lv, atI_lev (E5 _ _ (E4 _ _ hi)), _, rfl, _, rfl,
      p, A, L, S5, _, v, c1, c2, _, _, rfl, st5, (by omega), E5 _ _ hc1, hc2, vL, BT.neg_lev ga vL g1, BT.neg_lev gb vL g2, fun c3 S6 H6 st6 E6 K6 hc3 => ?_⟩
    rw [← BT.neg_node gt] at hc3
    have EE : Ext S S6 := (E4.trans E5).trans E6
    have KK : Keeps (fps A) H H6 := (K0.trans K1).trans ((K4.trans K5).trans K6)
    have kt6 := ((K4.trans K5).trans K6).tup kt (st1.tup_ne kt)
    obtain ⟨tk6, nd6, mk6, hl6⟩ := st6.td
    refine ⟨_, rfl, p, _, _, _, _, rfl, st6.ob, C, T.n_Trees_own_told, f_told _ _, _, rfl, A.td, q, tk6, _, rfl, rfl, nd6, keyH_one kt6, hd, cap_line (by omega), fun o nd7 nt => ?_⟩
    have hmi : i < S6.ts.length := (List.getElem?_eq_some_iff.mp (EE _ _ hi)).1
    have mk7 : Mok L S6 (putK tk6 (kOne "rest" i) (.int c3)) := by
      refine mk6.put hmi (fun j' hj' => absurd hj' (by simp)) (fun j' a b hx' _ _ _ => absurd hx' (by decide +kernel)) (fun j' a b hx' _ _ _ => absurd hx' (by decide +kernel)) (fun a' _ _ ha => ?_) (fun a ls hx' _ _ => absurd hx' (by decide +kernel))
      have e1 := Option.some.inj (ha.symm.trans (EE _ _ hi))
      subst e1
      exact ⟨c3, rfl, hc3⟩
    have hl7 := length_putK tk6 (kOne "rest" i) (.int c3)
    have st7 := st6.told nd7 nt mk7 (by omega)
    have K7 : Keeps (fps A) H6 (upd H6 A.td o) := Keeps.upd_mem (by simp [fps]) o
    have kt7 := K7.tup kt6 (st6.tup_ne kt6)
    refine ⟨_, rfl, p, _, _, _, _, rfl, st7.ob, C, T.n_Trees_own_told, f_told _ _, _, rfl, A.td, q, _, _, .int c3, rfl, rfl, nd7, keyH_one kt7, hd, (by rw [valV_put, if_pos rfl]), ?_⟩
    exact k c3 S6 _ (st7.mono (by omega)) EE (KK.trans K7) hc3
end
end Wv

end
section
set_option maxRecDepth 100000
set_option maxHeartbeats 4000000
/-! sorted(d, reverse=b) of a dict with int keys. -/
namespace L2
open PySem PySem.Spec PyProof.Rows
def rSortedDRev (b : Bool) : List V → List V → Hp → VK → Prop := fun vs zs H Q => ∃ (a : Addr) (kvs : List (Key × V)) (ks : List Int), vs = [.ref a] ∧ zs = [.bl b] ∧ Rd H a (.dK kvs) ∧ kvs.map (·.1) = ks.map Sum.inl ∧
  ∀ (ys : List Int) (p : Addr), ys.Perm ks → OrdB b ys → H p = none → Q (.ref p) (upd H p (.lst (ys.map V.int)))
section
variable {X : Cx}
theorem cr_sortedDRev {b : Bool} (hcalm : X.calm = true) : CallRK X (.builtin "sorted") [Str.ofString "reverse"] (rSortedDRev b) := by
  intro pins s σ H xs zs us ws Q I r rz q
  obtain ⟨a, kvs, ks, ex, ez, hd, hks, q⟩ := q
  subst ex ez
  obtain rfl := Vals.ref1 r
  obtain ⟨w1, rfl, e1⟩ := vals1 rz
  obtain rfl : w1 = Value.bool b := e1
  obtain ⟨z, lo, vs, rel, dd⟩ := dk_rd I.hok hd
  obtain ⟨ep, hat⟩ := dd.dictAt
  have hkeys : vs.map (·.1) = ks.map Sum.inl := rel.keys.symm.trans hks
  have hl : vs.length = ks.length := by
    have e := congrArg List.length hkeys
    rw [List.length_map, List.length_map] at e
    exact e
  have h16 : vs.length ≤ sizeLine := by rw [← rel.length]; exact z
  refine PyProof.Rows.call_function_entry_kw PyProof.Rows.kind_sorted PyProof.Rows.plain_sorted PyProof.Rows.entry_sorted (PyProof.Rows.args_sorted_rev _ _) ?_
  unfold Builtin.«sorted»
  refine wpAny_bind (m := checkCount "sorted" 1 1 _) (wpAny_pure ?_)
  refine wpAny_bind (PySem.W.kdu_collect (A := X.A.in1) (PySem.W.kdl_dict (knd := mixKind X.prog X.w) (kvs := vs) (ep := ep) lo) (I.ok.hd hcalm) hat h16 fun h' tk acc hk hacc => ?_)
  have hal : acc.toList.length = ks.length := by rw [Array.length_toList, hacc.1, hl]
  have hS : IntsAre acc.toList ks := ints_each hal fun j v e => by
    obtain ⟨k, x, e1, e2⟩ := hacc.2 j v (by rw [← Array.getElem?_toList]; exact e)
    have e3 : (vs.map (·.1))[j]? = some k := by rw [List.getElem?_map, e1]; rfl
    rw [hkeys, List.getElem?_map] at e3
    cases e4 : ks[j]? with
    | none => rw [e4] at e3; cases e3
    | some y =>
      rw [e4] at e3
      have e5 : Sum.inl y = k := Option.some.inj e3
      subst e5
      rcases keyIs_shape (show keyIs (Sum.inl y) v = true from e2) with ⟨i, t, ek, ev⟩ | ⟨z, t, ek, ev⟩
      · cases ek
        exact ⟨y, t, rfl, ev⟩
      · cases ek
  have hz : acc.toList.length ≤ sizeLine := by rw [hal, ← hl]; exact h16
  have I1 : Inv X pins σ H { s with heap := h', toks := tk } := I.kept hk
  refine wpAny_bind (wpAny_newList ?_ hz)
  have hoL : (h'.push (seqObj "list" acc.toList.toArray 0)).get? h'.objs.size = some (seqObj "list" acc.toList.toArray 0) := Heap.get?_push_size _ rfl
  show wpAny _ _ _ _ _ { s with heap := h'.push (seqObj "list" acc.toList.toArray 0), toks := tk }
  refine wpAny_bind (wpAny_holding (wpAny_call_entry_kw PyProof.Rows.slot_list_sort ⟨_, hoL, rfl⟩ PyProof.Rows.entry_list_sort
    (SrtR.list_sort_ordR (s := { s with heap := h'.push (seqObj "list" acc.toList.toArray 0), toks := tk }) SrtO.swo_int hoL hz (fun h2 => SrtO.ints_sortable hS h2) fun out h1 h2 => ⟨_, rfl, ?_⟩) (PyProof.Rows.args_list_sort_rev _ _)))
  obtain ⟨ys, g1, g2, g3⟩ := SrtR.ints_outR hS h1 h2
  obtain ⟨e', he'⟩ := PyProof.Rows.sortedHeap_at (vs := acc.toList) (out := (if b = true then out.toArray.reverse else out.toArray)) hoL
  have hlen : (ys.map V.int).length ≤ sizeLine := by
    rw [List.length_map, g2.length_eq, ← hal]
    exact hz
  refine wpAny_pure ⟨_, rfl, .ref h'.objs.size, upd H h'.objs.size (.lst (ys.map V.int)), I1.laid (t' := tk) (fun b u e => ?_) (Nat.le_refl _)
    (show ObjOk X.prog X.w _ _ _ (.lst (ys.map V.int)) from ⟨hlen, (if b = true then out.toArray.reverse else out.toArray).toList, e', vals_of_ints g1, by rw [Array.toArray_toList]; exact he'⟩), rfl, q ys _ g2 g3 (I1.hok.fresh (Nat.le_refl _))⟩
  have hb : b < h'.objs.size := Heap.lt_size e
  rw [PyProof.Rows.sortedHeap_old (Nat.ne_of_lt hb) (by rw [size_push']; exact Nat.lt_succ_of_lt hb)]
  exact Heap.get?_push_of_some _ e
end
end L2

end
section
set_option maxRecDepth 100000
set_option maxHeartbeats 8000000
/-! The methods of Trees: together, row. Printed from K73T4.tpl by tm.py. -/
namespace Wv
open PySem PySem.Spec PyProof.Rows L2
/-! ### plain -/
def rcs (ps : List BT.Pat) : Nat := (ps.map BT.rc).sum
theorem rcs_app (ps qs : List BT.Pat) : rcs (ps ++ qs) = rcs ps + rcs qs := by simp [rcs]
theorem rcs_snoc (ps : List BT.Pat) (p : BT.Pat) : rcs (ps ++ [p]) = rcs ps + BT.rc p := by simp [rcs]
theorem ofPats_snoc (L : Nat) (ps : List BT.Pat) (p : BT.Pat) : BT.ofPats L (ps ++ [p]) = BT.disj L (BT.ofPats L ps) (BT.rowT (BT.lits 0 p)) := by
  unfold BT.ofPats
  rw [List.foldl_append]
  rfl
theorem take_more {α : Type} : ∀ {l : List α} {i : Nat} {x : α}, l[i]? = some x → l.take (i + 1) = l.take i ++ [x]
  | [], i, x, h => by simp at h
  | a :: l, 0, x, h => by
    have e : a = x := Option.some.inj h
    subst e
    rfl
  | a :: l, i + 1, x, h => by
    have ih := take_more (l := l) (i := i) (x := x) h
    show a :: l.take (i + 1) = a :: l.take i ++ [x]
    rw [ih]
    rfl
def bnum (b : Bool) : Nat := if b then 1 else 0
/-- the signs that are told, as the dict that signs_of makes -/
def signKvs (p : BT.Pat) : List (Key × V) := (BT.lits 0 p).map fun x => ((Sum.inl (x.1 : Int) : Key), V.int (bnum x.2 : Nat))
theorem valV_signs : ∀ {xs : List (Nat × Bool)}, (xs.Pairwise fun a b => a.1 < b.1) → ∀ {x : Nat × Bool}, x ∈ xs → valV (xs.map fun x => ((Sum.inl (x.1 : Int) : Key), V.int (bnum x.2 : Nat))) (Sum.inl (x.1 : Int)) = some (.int (bnum x.2 : Nat))
  | y :: ys, h, x, hx => by
    obtain ⟨h1, h2⟩ := List.pairwise_cons.mp h
    rw [List.map_cons]
    rcases List.mem_cons.mp hx with rfl | hx
    · exact valV_pos rfl
    · have hlt := h1 x hx
      rw [valV_neg (fun e => by
        have e' : (Sum.inl (y.1 : Int) : Key) = Sum.inl (x.1 : Int) := e
        injection e' with e'
        omega)]
      exact valV_signs h2 hx
theorem ge_unique {ks ys : List Int} (hp : ys.Perm ks.reverse) (h1 : ys.Pairwise (· ≥ ·)) (h2 : ks.Pairwise (· ≤ ·)) : ys = ks.reverse := by
  have h3 : ks.reverse.Pairwise (· ≥ ·) := List.pairwise_reverse.mpr h2
  exact List.Perm.eq_of_pairwise (fun a b _ _ hab hba => Int.le_antisymm hba hab) h1 h3 hp
/-! ### promises -/
/-- together: the rows of patterns, put together -/
def spTog (P : Program) (w : World) (C : Addr) : Sp := fun vs H Q _ => ∃ (p a : Addr) (A : TA) (L : Nat) (S : Sto) (n : Nat) (is : List Nat) (ps : List BT.Pat), vs = [.ref p, .ref a] ∧ TAt P w C H p A L S n ∧ L ≤ 16 ∧ H a = some (.lst (nums is)) ∧ a ∉ fps A ∧
  is.length = ps.length ∧ (∀ (j i : Nat) (q : BT.Pat), is[j]? = some i → ps[j]? = some q → S.ts[i]? = some (BT.rowT (BT.lits 0 q))) ∧ (∀ q ∈ ps, q.length = L) ∧ n + rcs ps ≤ cap ∧
  ∀ (k : Nat) (S' : Sto) (H' : Hp), TAt P w C H' p A L S' (n + rcs ps) → Ext S S' → Keeps (fps A) H H' → S'.ts[k]? = some (BT.ofPats L ps) → Q (.int k) H'
def spRow (P : Program) (w : World) (C : Addr) : Sp := fun vs H Q _ => ∃ (p d : Addr) (A : TA) (L : Nat) (S : Sto) (n : Nat) (q : BT.Pat), vs = [.ref p, .ref d] ∧ TAt P w C H p A L S n ∧ H d = some (.dK (signKvs q)) ∧ q.length = L ∧ n + L ≤ cap ∧
  ∀ (k : Nat) (S' : Sto) (H' : Hp), TAt P w C H' p A L S' (n + L) → Ext S S' → Keeps (fps A) H H' → S'.ts[k]? = some (BT.rowT (BT.lits 0 q)) → Q (.int k) H'
theorem TAt.dk_ne {P : Program} {w : World} {C : Addr} {H : Hp} {p : Addr} {A : TA} {L : Nat} {S : Sto} {n : Nat} (h : TAt P w C H p A L S n) {b : Addr} {kvs : List (Key × V)} (e : H b = some (.dK kvs)) : b ∉ fps A := by
  obtain ⟨kvs, e1, _⟩ := h.kn
  obtain ⟨xs, e2⟩ := h.tdn
  simp only [fps, List.mem_cons, List.not_mem_nil, or_false]
  rintro (rfl | rfl | rfl | rfl | rfl)
  · rw [h.lv] at e; cases e
  · rw [h.lo] at e; cases e
  · rw [h.hi] at e; cases e
  · rw [e1] at e; cases e
  · rw [e2] at e; cases e
section
variable {P : Program} {w : World} {K : PySem.W.Frag} {mg : Str → Option Value} {base h : Heap} (T : Tp K mg w h)
include T
theorem ok_Trees_together : FnR P w K mg base CX0 20 (TM K "together") (spTog P w (TC K)) := by
  refine fnR0_of T.F_Trees_together sc_Trees_together (fun _ _ _ _ _ _ us hl => match us, hl with | [_, _], _ => rfl) (fun vs H Q E h => ?_) (fun cdv AA outer s H vs Q E hr h => ?_)
  · obtain ⟨p, a, A, L, S, n, is, ps, rfl, _⟩ := h
    rfl
  obtain ⟨p, a, A, L, S, n, is, ps, rfl, st, h16, ha, hna, hlen, his, hps, hc, k⟩ := h
  refine ⟨_, (pss_cons (ps_set (i := 2) sc_Trees_together.nd rfl (Or.inl rfl) (pe_gint T.i_NOTHING))
      (pss_cons (ps_for PassesOwn.never rfl (pi_list (pv 1)) (pg_name (i := 3) sc_Trees_together.nd rfl (Or.inl rfl)) (pss_one (ps_set (i := 2) sc_Trees_together.nd rfl (Or.inl rfl) (pe_methR (pv 0) T.cl_Trees T.m_Trees_either (ok_Trees_either T 17) (hr.mono (by decide)) pass0 (pa_cons (pv 2) (pa_cons (pv 3) pa_nil))))))
      (pss_one (ps_ret (pv 2))))), ?_⟩
  have C := T.cl_Trees
  refine ⟨_, rfl, a, rfl, ⟨_, SqL.of ha⟩, for_list (K := K) (a := a) (xs := nums is) (fun i σ H' => ∃ (f : Nat) (v : Option V) (S' : Sto), σ = [some (.ref p), some (.ref a), some (.int f), v] ∧ TAt P w (TC K) H' p A L S' (n + rcs (ps.take i)) ∧ Ext S S' ∧ Keeps (fps A) H H' ∧ S'.ts[f]? = some (BT.ofPats L (ps.take i)))
    ⟨0, none, S, rfl, st, Ext.refl S, Keeps.refl _ _, st.ok.z⟩ (fun i σ H' _ ⟨f, v, S', _, _, _, K', _⟩ => SqL.of (K' a _ ha hna)) ?_ ?_⟩
  · rintro i y σ H1 hy ⟨f, v, S1, rfl, st1, E1, K1, hf⟩
    obtain ⟨x, hx, rfl⟩ : ∃ x, is[i]? = some x ∧ y = V.int (x : Int) := by
      rw [List.getElem?_map] at hy
      cases e : is[i]? with
      | none => rw [e] at hy; cases hy
      | some x => rw [e] at hy; exact ⟨x, rfl, (Option.some.inj hy).symm⟩
    have hi : i < ps.length := by rw [← hlen]; exact (List.getElem?_eq_some_iff.mp hx).1
    obtain ⟨q, hq⟩ : ∃ q, ps[i]? = some q := ⟨ps[i], List.getElem?_eq_getElem hi⟩
    have hrow := E1 _ _ (his i x q hx hq)
    have hql : q.length = L := hps q (List.mem_of_getElem? hq)
    have htk := take_more hq
    have cost := BT.cs_row q 0 (BT.ofPats L (ps.take i))
    rw [hql] at cost
    have hle : rcs (ps.take (i + 1)) ≤ rcs ps := by
      have e := rcs_app (ps.take (i + 1)) (ps.drop (i + 1))
      rw [List.take_append_drop] at e
      omega
    rw [htk, rcs_snoc] at hle
    refine ⟨_, rfl, p, _, _, rfl, st1.ob, no_either _ _, _, rfl, _, rfl, p, A, L, S1, _, 0, f, x, _, _, rfl, st1, (by omega), h16, hf, hrow, Nat.zero_le _, Nat.zero_le _, (by rw [Nat.sub_zero]; omega), fun z S2 H2 st2 E2 K2 hz => ?_⟩
    rw [Nat.sub_zero] at st2
    exact ⟨z, some (.int x), S2, rfl, st2.mono (by rw [htk, rcs_snoc]; omega), E1.trans E2, K1.trans K2, by rw [htk, ofPats_snoc]; exact hz⟩
  · rintro σ H1 ⟨f, v, S1, rfl, st1, E1, K1, hf⟩
    have el : (nums is).length = ps.length := by simp [hlen]
    rw [el, List.take_length] at st1 hf
    exact ⟨_, rfl, k f S1 H1 st1 E1 K1 hf⟩
theorem ok_Trees_row : FnR P w K mg base CX0 2 (TM K "row") (spRow P w (TC K)) := by
  refine fnR0_of T.F_Trees_row sc_Trees_row (fun _ _ _ _ _ _ us hl => match us, hl with | [_, _], _ => rfl) (fun vs H Q E h => ?_) (fun cdv AA outer s H vs Q E hr h => ?_)
  · obtain ⟨p, d, A, L, S, n, q, rfl, _⟩ := h
    rfl
  obtain ⟨p, d, A, L, S, n, q, rfl, st, hd, hql, hc, k⟩ := h
  have hu := hu_of hr
  refine ⟨_, (pss_cons (ps_set (i := 2) sc_Trees_row.nd rfl (Or.inl rfl) (pe_gint T.i_ALL))
      (pss_cons (ps_for PassesOwn.never rfl (pi_list (pe_callBK (cr_sortedDRev (b := true) rfl) rfl T.z_sorted (by decide +kernel) (pa_cons (pv 1) pa_nil) (pk_cons pe_bl pk_nil))) (pg_name (i := 3) sc_Trees_row.nd rfl (Or.inl rfl)) (pss_one (ps_set (i := 2) sc_Trees_row.nd rfl (Or.inl rfl) (pe_ifExp (pt_cmpR op_eq (pe_dget hu (pv 1) (pv 3) (fun _ _ => rfl)) pe_int (nomark _)) (pe_methR (pv 0) T.cl_Trees T.m_Trees_node (ok_Trees_node T) (hr.mono (by decide)) pass0 (pa_cons (pv 3) (pa_cons (pe_gint T.i_NOTHING) (pa_cons (pv 2) pa_nil)))) (pe_methR (pv 0) T.cl_Trees T.m_Trees_node (ok_Trees_node T) (hr.mono (by decide)) pass0 (pa_cons (pv 3) (pa_cons (pv 2) (pa_cons (pe_gint T.i_NOTHING) pa_nil))))))))
      (pss_one (ps_ret (pv 2))))), ?_⟩
  have C := T.cl_Trees
  have hsorted := BT.lits_sorted q 0
  have hlt : ∀ x ∈ BT.lits 0 q, x.1 < L := fun x hx => by have := (BT.lits_ge hx).2; omega
  have hcount : (BT.lits 0 q).length ≤ L := by
    have key : ∀ (r : BT.Pat) (i : Nat), (BT.lits i r).length ≤ r.length := by
      intro r
      induction r with
      | nil => intro i; exact Nat.le_refl _
      | cons o r ih =>
        intro i
        cases o with
        | none => have := ih (i + 1); show (BT.lits (i + 1) r).length ≤ _; rw [List.length_cons]; omega
        | some b => have := ih (i + 1); show ((i, b) :: BT.lits (i + 1) r).length ≤ _; rw [List.length_cons, List.length_cons]; omega
    have := key q 0
    omega
  have hkeys : (signKvs q).map (·.1) = ((BT.lits 0 q).map fun x => (x.1 : Int)).map Sum.inl := by
    unfold signKvs
    rw [List.map_map, List.map_map]
    rfl
  have hval : ∀ x ∈ BT.lits 0 q, valV (signKvs q) (Sum.inl (x.1 : Int)) = some (.int (bnum x.2 : Nat)) := fun x hx => valV_signs hsorted hx
  generalize BT.lits 0 q = xs at *
  refine ⟨_, rfl, d, _, _, rfl, rfl, .inl hd, hkeys, fun ys a hperm hord hna => ?_⟩
  have hys : ys = (xs.map fun x => (x.1 : Int)).reverse := by
    refine ge_unique (hperm.trans (List.reverse_perm _).symm) hord ?_
    rw [List.pairwise_map]
    exact hsorted.imp fun h => by omega
  subst hys
  have st0 := st.new hna (.lst (((xs.map fun x => (x.1 : Int)).reverse).map V.int))
  have K0 : Keeps (fps A) H (upd H a (.lst (((xs.map fun x => (x.1 : Int)).reverse).map V.int))) := Keeps.new hna _
  have ha : (upd H a (.lst (((xs.map fun x => (x.1 : Int)).reverse).map V.int))) a = some (.lst (((xs.map fun x => (x.1 : Int)).reverse).map V.int)) := upd_same
  have hnfa : a ∉ fps A := st.none_ne hna
  generalize upd H a (.lst (((xs.map fun x => (x.1 : Int)).reverse).map V.int)) = H0 at st0 K0 ha ⊢
  have hd0 : H0 d = some (.dK (signKvs q)) := K0 d _ hd (st.dk_ne hd)
  refine ⟨a, rfl, ⟨_, SqL.of ha⟩, for_list (K := K) (a := a) (xs := ((xs.map fun x => (x.1 : Int)).reverse).map V.int) (fun i σ H' => ∃ (f : Nat) (v : Option V) (S' : Sto), σ = [some (.ref p), some (.ref d), some (.int f), v] ∧ TAt P w (TC K) H' p A L S' (n + i) ∧ Ext S S' ∧ Keeps (fps A) H0 H' ∧ S'.ts[f]? = some (BT.rowT (xs.drop (xs.length - i))))
    ⟨1, none, S, rfl, st0, Ext.refl S, Keeps.refl _ _, by rw [Nat.sub_zero, List.drop_length]; exact st.ok.o⟩ (fun i σ H' _ ⟨f, v, S', _, _, _, K', _⟩ => SqL.of (K' a _ ha hnfa)) ?_ ?_⟩
  · rintro i y σ H1 hy ⟨f, v, S1, rfl, st1, E1, K1, hf⟩
    have hi : i < xs.length := by have := (List.getElem?_eq_some_iff.mp hy).1; simpa using this
    have hget : xs[xs.length - 1 - i]? = some xs[xs.length - 1 - i] := List.getElem?_eq_getElem (by omega)
    generalize hx : xs[xs.length - 1 - i] = x at hget
    have hy' : y = V.int (x.1 : Int) := by
      rw [List.getElem?_map, List.getElem?_reverse (by simpa using hi), List.length_map, List.getElem?_map, hget] at hy
      exact (Option.some.inj hy).symm
    subst hy'
    have hmem : x ∈ xs := List.mem_of_getElem? hget
    have hxL := hlt x hmem
    have hdrop : xs.drop (xs.length - (i + 1)) = x :: xs.drop (xs.length - i) := by
      have e1 : xs.length - (i + 1) = xs.length - 1 - i := by omega
      have e2 : xs.length - i = (xs.length - 1 - i) + 1 := by omega
      rw [e1, e2, List.drop_eq_getElem_cons (by omega), hx]
    have hs1 : (xs.drop (xs.length - i)).Pairwise fun a b => a.1 < b.1 := hsorted.sublist (List.drop_sublist _ _)
    have hs2 : (x :: xs.drop (xs.length - i)).Pairwise fun a b => a.1 < b.1 := by rw [← hdrop]; exact hsorted.sublist (List.drop_sublist _ _)
    obtain ⟨hgt, _⟩ := List.pairwise_cons.mp hs2
    obtain ⟨gr, _, vr⟩ := BT.rowT_ok hs1 fun z hz => hlt z (List.mem_of_mem_drop hz)
    have hlev := vr x.1 hxL hgt
    have step : BT.rowT (xs.drop (xs.length - (i + 1))) = if x.2 then BT.mk x.1 (.leaf false) (BT.rowT (xs.drop (xs.length - i))) else BT.mk x.1 (BT.rowT (xs.drop (xs.length - i))) (.leaf false) := by rw [hdrop]; rfl
    have hd1 : H1 d = some (.dK (signKvs q)) := K1 d _ hd0 (st0.dk_ne hd0)
    refine ⟨_, rfl, _, rfl, d, _, rfl, (by rw [← hval x hmem]; exact DGet.k (k := Sum.inl (x.1 : Int)) hd1), rfl, _, rfl, ?_⟩
    refine ite2 (fun c => ?_) (fun c => ?_)
    · have c' : x.2 = true := by
        have := dec_t (j := 1) c
        cases e : x.2 with
        | true => rfl
        | false => rw [e] at this; cases this
      rw [c', if_pos rfl] at step
      refine ⟨_, rfl, p, _, _, rfl, st1.ob, no_node _ _, _, rfl, _, rfl, p, A, L, S1, _, x.1, 0, f, _, _, rfl, st1, (by omega), st1.ok.z, hf, hxL, hxL, hlev, fun z S2 H2 st2 E2 K2 hz => ?_⟩
      exact ⟨z, some (.int (x.1 : Int)), S2, rfl, st2, E1.trans E2, K1.trans K2, by rw [step]; exact hz⟩
    · have c' : x.2 = false := by
        have := dec_f (j := 1) c
        cases e : x.2 with
        | false => rfl
        | true => rw [e] at this; exact absurd rfl this
      rw [c', if_neg Bool.false_ne_true] at step
      refine ⟨_, rfl, p, _, _, rfl, st1.ob, no_node _ _, _, rfl, _, rfl, p, A, L, S1, _, x.1, f, 0, _, _, rfl, st1, (by omega), hf, st1.ok.z, hxL, hlev, hxL, fun z S2 H2 st2 E2 K2 hz => ?_⟩
      exact ⟨z, some (.int (x.1 : Int)), S2, rfl, st2, E1.trans E2, K1.trans K2, by rw [step]; exact hz⟩
  · rintro σ H1 ⟨f, v, S1, rfl, st1, E1, K1, hf⟩
    have el : (((xs.map fun x => (x.1 : Int)).reverse).map V.int).length = xs.length := by simp
    rw [el] at st1 hf
    rw [Nat.sub_self, List.drop_zero] at hf
    exact ⟨_, rfl, k f S1 H1 (st1.mono (by omega)) E1 (K0.trans K1) hf⟩
end
end Wv

end
section
set_option maxRecDepth 100000
set_option maxHeartbeats 4000000
/-! Lists and tuples of ints, of texts, as data: ==, !=. -/
namespace L2
open PySem PySem.Spec PyProof.Rows
section
variable {K : PySem.W.Frag} {H : Hp}
theorem dpAll_ints : ∀ ns : List Int, DpAll K H (ns.map V.int) (ns.map PyData.int)
  | [] => .nil
  | n :: ns => .cons (.int n) (dpAll_ints ns)
theorem dpAll_strs : ∀ xs : List Str, DpAll K H (xs.map V.str) (xs.map PyData.str)
  | [] => .nil
  | x :: xs => .cons (.str x) (dpAll_strs xs)
theorem lay_ints : ∀ ns : List Int, PyData.canLayAll0 (ns.map PyData.int) = true
  | [] => rfl
  | n :: ns => by rw [List.map_cons, PyData.canLayAll0, lay_ints ns]; rfl
theorem lay_strs : ∀ {xs : List Str}, (∀ x ∈ xs, PyData.strOk x = true) → PyData.canLayAll0 (xs.map PyData.str) = true
  | [], _ => rfl
  | x :: xs, h => by
    rw [List.map_cons, PyData.canLayAll0, lay_strs fun y hy => h y (List.mem_cons_of_mem _ hy), Bool.and_true]
    rw [PyData.canLay0]
    exact h x List.mem_cons_self
theorem depth_ints : ∀ ns : List Int, PyData.depthAll (ns.map PyData.int) = 0
  | [] => rfl
  | n :: ns => by rw [List.map_cons, PyData.depthAll, depth_ints ns]; rfl
theorem depth_strs : ∀ xs : List Str, PyData.depthAll (xs.map PyData.str) = 0
  | [] => rfl
  | n :: ns => by rw [List.map_cons, PyData.depthAll, depth_strs ns]; rfl
theorem shaped_ints (ns : List Int) : SeqAt.shaped (.tuple (ns.map PyData.int)) = true := by
  unfold SeqAt.shaped
  rw [PyData.canLay0, lay_ints, PyData.depth, depth_ints]
  rfl
theorem shaped_intsL (ns : List Int) : SeqAt.shaped (.list (ns.map PyData.int)) = true := by
  unfold SeqAt.shaped
  rw [PyData.canLay0, lay_ints, PyData.depth, depth_ints]
  rfl
theorem shaped_strs {xs : List Str} (h : ∀ x ∈ xs, PyData.strOk x = true) : SeqAt.shaped (.tuple (xs.map PyData.str)) = true := by
  unfold SeqAt.shaped
  rw [PyData.canLay0, lay_strs h, PyData.depth, depth_strs]
  rfl
theorem eqv_ints : ∀ ns ms : List Int, PyData.eqvAll (ns.map PyData.int) (ms.map PyData.int) = decide (ns = ms)
  | [], [] => by rw [List.map_nil, PyData.eqvAll]; simp
  | [], m :: ms => by rw [List.map_nil, List.map_cons, PyData.eqvAll]; simp
  | n :: ns, [] => by rw [List.map_nil, List.map_cons, PyData.eqvAll]; simp
  | n :: ns, m :: ms => by
    rw [List.map_cons, List.map_cons, PyData.eqvAll, PyData.eqv, eqv_ints ns ms]
    by_cases h : n = m
    · subst h; simp
    · simp [h]
theorem eqv_strs : ∀ xs ys : List Str, PyData.eqvAll (xs.map PyData.str) (ys.map PyData.str) = decide (xs = ys)
  | [], [] => by rw [List.map_nil, PyData.eqvAll]; simp
  | [], m :: ms => by rw [List.map_nil, List.map_cons, PyData.eqvAll]; simp
  | n :: ns, [] => by rw [List.map_nil, List.map_cons, PyData.eqvAll]; simp
  | n :: ns, m :: ms => by
    rw [List.map_cons, List.map_cons, PyData.eqvAll, PyData.eqv, eqv_strs ns ms]
    by_cases h : n = m
    · subst h; simp
    · simp [h]
end
/-- == and != of tuples of ints, of texts -/
def rEqTI (K : PySem.W.Frag) (ne : Bool) : R2 := fun x y H Q => ∃ (a b : Addr) (ns ms : List Int), x = .ref a ∧ y = .ref b ∧ SqT K H a (ns.map V.int) ∧ SqT K H b (ms.map V.int) ∧ Q (.bl (if ne then !decide (ns = ms) else decide (ns = ms))) H
def rEqTS (K : PySem.W.Frag) (ne : Bool) : R2 := fun x y H Q => ∃ (a b : Addr) (xs ys : List Str), x = .ref a ∧ y = .ref b ∧ SqT K H a (xs.map V.str) ∧ SqT K H b (ys.map V.str) ∧ (∀ x ∈ xs, PyData.strOk x = true) ∧ (∀ x ∈ ys, PyData.strOk x = true) ∧ Q (.bl (if ne then !decide (xs = ys) else decide (xs = ys))) H
def rEqLI (K : PySem.W.Frag) (ne : Bool) : R2 := fun x y H Q => ∃ (a b : Addr) (ns ms : List Int), x = .ref a ∧ y = .ref b ∧ SqL K H a (ns.map V.int) ∧ SqL K H b (ms.map V.int) ∧ Q (.bl (if ne then !decide (ns = ms) else decide (ns = ms))) H
section
variable {X : Cx}
theorem op_eqTI (hu : X.A.units + 64 < cLine) : OpR X (compareOp .Eq) (rEqTI X.K false) := by
  intro pins s σ H x y u v Q I rx ry h
  obtain ⟨a, b, ns, ms, rfl, rfl, ha, hb, q⟩ := h
  refine op_eqD hu pins s σ H _ _ u v Q I rx ry ⟨.tuple (ns.map .int), .tuple (ms.map .int), .tup ha (dpAll_ints ns), .tup hb (dpAll_ints ms), shaped_ints ns, shaped_ints ms, ?_⟩
  rw [PyData.eqv, eqv_ints]
  exact q
theorem op_neTI (hu : X.A.units + 64 < cLine) : OpR X (compareOp .NotEq) (rEqTI X.K true) := by
  intro pins s σ H x y u v Q I rx ry h
  obtain ⟨a, b, ns, ms, rfl, rfl, ha, hb, q⟩ := h
  refine op_neD hu pins s σ H _ _ u v Q I rx ry ⟨.tuple (ns.map .int), .tuple (ms.map .int), .tup ha (dpAll_ints ns), .tup hb (dpAll_ints ms), shaped_ints ns, shaped_ints ms, ?_⟩
  rw [PyData.eqv, eqv_ints]
  exact q
theorem op_eqTS (hu : X.A.units + 64 < cLine) : OpR X (compareOp .Eq) (rEqTS X.K false) := by
  intro pins s σ H x y u v Q I rx ry h
  obtain ⟨a, b, ns, ms, rfl, rfl, ha, hb, o1, o2, q⟩ := h
  refine op_eqD hu pins s σ H _ _ u v Q I rx ry ⟨.tuple (ns.map .str), .tuple (ms.map .str), .tup ha (dpAll_strs ns), .tup hb (dpAll_strs ms), shaped_strs o1, shaped_strs o2, ?_⟩
  rw [PyData.eqv, eqv_strs]
  exact q
theorem op_neTS (hu : X.A.units + 64 < cLine) : OpR X (compareOp .NotEq) (rEqTS X.K true) := by
  intro pins s σ H x y u v Q I rx ry h
  obtain ⟨a, b, ns, ms, rfl, rfl, ha, hb, o1, o2, q⟩ := h
  refine op_neD hu pins s σ H _ _ u v Q I rx ry ⟨.tuple (ns.map .str), .tuple (ms.map .str), .tup ha (dpAll_strs ns), .tup hb (dpAll_strs ms), shaped_strs o1, shaped_strs o2, ?_⟩
  rw [PyData.eqv, eqv_strs]
  exact q
theorem op_neLI (hu : X.A.units + 64 < cLine) : OpR X (compareOp .NotEq) (rEqLI X.K true) := by
  intro pins s σ H x y u v Q I rx ry h
  obtain ⟨a, b, ns, ms, rfl, rfl, ha, hb, q⟩ := h
  refine op_neD hu pins s σ H _ _ u v Q I rx ry ⟨.list (ns.map .int), .list (ms.map .int), .lst ha (dpAll_ints ns), .lst hb (dpAll_ints ms), shaped_intsL ns, shaped_intsL ms, ?_⟩
  rw [PyData.eqv, eqv_ints]
  exact q
end
end L2

end
section
set_option maxRecDepth 100000
set_option maxHeartbeats 8000000
/-! The methods of Trees: freed, put, put_back. Printed from K73T5.tpl by tm.py. -/
namespace Wv
open PySem PySem.Spec PyProof.Rows L2
theorem depth_nums : ∀ ls : List Nat, NestedKey.depthAll (ls.map fun (l : Nat) => NestedKey.num (l : Int)) = 0
  | [] => rfl
  | l :: ls => by rw [List.map_cons, NestedKey.depthAll, depth_nums ls]; rfl
theorem depth_free (i : Nat) (ls : List Nat) : (kFree i ls).depth ≤ 8 := by
  simp [NestedKey.depth, NestedKey.depthAll, kNums, depth_nums]
theorem keysH_nums {H : Hp} : ∀ ls : List Nat, KeysH H (ls.map fun (l : Nat) => NestedKey.num (l : Int)) (nums ls)
  | [] => by rw [List.map_nil, KeysH]; rfl
  | l :: ls => by
    rw [List.map_cons, KeysH]
    exact ⟨_, _, rfl, by rw [KeyH], keysH_nums ls⟩
theorem keyH_free {H : Hp} {q a : Addr} {i : Nat} {ls : List Nat} (h : H q = some (.tup [.str "freed", .int i, .ref a])) (ha : H a = some (.tup (nums ls))) : KeyH H (kFree i ls) (.ref q) := by
  rw [kFree, KeyH]
  refine ⟨q, _, rfl, h, ?_⟩
  rw [KeysH]
  refine ⟨_, _, rfl, by rw [KeyH], ?_⟩
  rw [KeysH]
  refine ⟨_, _, rfl, by rw [KeyH], ?_⟩
  rw [KeysH]
  refine ⟨_, _, rfl, ?_, by rw [KeysH]⟩
  rw [kNums, KeyH]
  exact ⟨a, _, rfl, ha, keysH_nums ls⟩
theorem kNums_inj {a b : List Nat} (h : kNums a = kNums b) : a = b := by
  unfold kNums at h
  injection h with h
  induction a generalizing b with
  | nil => cases b with
    | nil => rfl
    | cons y ys => simp at h
  | cons x xs ih => cases b with
    | nil => simp at h
    | cons y ys =>
      rw [List.map_cons, List.map_cons] at h
      injection h with h1 h2
      injection h1 with h1
      rw [ih h2]
      congr 1
      omega
theorem inV_nums (l : Nat) (ls : List Nat) : inV (.int (l : Int)) (nums ls) = decide (l ∈ ls) := by
  induction ls with
  | nil => rfl
  | cons m ls ih =>
    have e1 : eqV (.int (m : Int)) (.int (l : Int)) = decide ((m : Int) = (l : Int)) := rfl
    unfold inV at ih ⊢
    rw [nums, List.map_cons, List.any_cons, e1, ih, ← Bool.decide_or]
    apply decide_eq_decide.mpr
    rw [List.mem_cons]
    constructor
    · rintro (h | h)
      · exact .inl (by omega)
      · exact .inr h
    · rintro (h | h)
      · exact .inl (by omega)
      · exact .inr h
theorem nums_app (a b : List Nat) : nums (a ++ b) = nums a ++ nums b := List.map_append
theorem flat_nums (ls : List Nat) : (nums ls).all flatV = true := by
  rw [List.all_eq_true]
  intro x hx
  obtain ⟨n, _, rfl⟩ := List.mem_map.mp hx
  rfl
theorem nums_ints (ls : List Nat) : nums ls = (ls.map fun (n : Nat) => (n : Int)).map V.int := by rw [List.map_map]; rfl
theorem filter_more {p : Nat → Bool} {ls : List Nat} {i x : Nat} (h : ls[i]? = some x) : (ls.take (i + 1)).filter p = if p x = true then (ls.take i).filter p ++ [x] else (ls.take i).filter p := by
  rw [take_more h, List.filter_append, List.filter_cons]
  split <;> simp
def spFreed (P : Program) (w : World) (C : Addr) (m : Nat) : Sp := fun vs H Q _ => ∃ (p a : Addr) (A : TA) (L : Nat) (S : Sto) (n l i : Nat) (t : BT) (ls : List Nat), vs = [.ref p, .int i, .ref a] ∧ TAt P w C H p A L S n ∧ L < l + m ∧ L ≤ 16 ∧
  H a = some (.tup (nums ls)) ∧ ls.length ≤ 1000 ∧ S.ts[i]? = some t ∧ l ≤ BT.lev L t ∧ n + BT.cf (L - l) ≤ cap ∧
  ∀ (k : Nat) (S' : Sto) (H' : Hp), TAt P w C H' p A L S' (n + BT.cf (L - l)) → Ext S S' → Keeps (fps A) H H' → S'.ts[k]? = some (BT.freed L t ls) → Q (.int k) H'
section
variable {P : Program} {w : World} {K : PySem.W.Frag} {mg : Str → Option Value} {base h : Heap} (T : Tp K mg w h)
include T
theorem ok_Trees_freed (m : Nat) : FnR P w K mg base CX0 (m + 18) (TM K "freed") (spFreed P w (TC K) m) := by
  induction m with
  | zero =>
    intro AA outer s H us vs Q E hr e0 r h
    obtain ⟨p, a, A, L, S, n, l, i, t, ls, rfl, st, hm, h16, ha, h1000, hi, hl1, hc, k⟩ := h
    have := BT.lev_le (st.ok.g hi)
    omega
  | succ m ih =>
  refine (fnR0_of (k := m + 18) T.F_Trees_freed sc_Trees_freed (fun _ _ _ _ _ _ us hl => match us, hl with | [_, _, _], _ => rfl) (fun vs H Q E h => ?_) (fun cdv AA outer s H vs Q E hr h => ?_)).mono (by omega)
  · obtain ⟨p, a, A, L, S, n, l, i, t, ls, rfl, _⟩ := h
    rfl
  obtain ⟨p, a, A, L, S, n, l, i, t, ls, rfl, st, hm, h16, ha, h1000, hi, hl1, hc, k⟩ := h
  have hu := hu_of hr
  have hu9 := hu9_of hr
  have hu64 := hr.units
  have hr1 : Room 1 _ := hr.mono (by omega)
  have hr18 : Room 18 _ := hr.mono (by omega)
  have gt := st.ok.g hi
  refine ⟨_, (pss_cons (ps_if (PW.pt (pw_or (pt_cmpR op_in_seq (pv 1) (pe_tup (pa_cons (pe_gint T.i_NOTHING) (pa_cons (pe_gint T.i_ALL) pa_nil))) (by rfl)) (pw_or1 (pt_cmpR (op_eqTI hu64) (pv 2) (pe_tup pa_nil) (nomark _))))) (pss_one (ps_ret (pv 1))) pss_nil)
      (pss_cons (ps_set (i := 3) sc_Trees_freed.nd rfl (Or.inl rfl) (pe_tup (pa_cons pe_str (pa_cons (pv 1) (pa_cons (pv 2) pa_nil)))))
      (pss_cons (ps_if (pt_cmp (pc_nnotin hu9 (pv 3) (pe_fld (pv 0) rfl))) (pss_cons (ps_set (i := 4) sc_Trees_freed.nd rfl (Or.inr rfl) (pe_ix ix_list (pe_fld (pv 0) rfl) (pv 1) (fun _ _ => rfl)))
      (pss_cons (ps_set (i := 6) sc_Trees_freed.nd rfl (Or.inl rfl) (pe_callTy call_tuple_of (by rfl) T.z_tuple (by decide +kernel) (pa_cons (pe_lc (own := [("its", 5)]) rfl sc_Trees_freed.nd (pi_tup (pv 2)) (blkOk_by (N := ["self", "tree", "levels", "key", "level", "its", "below", "rest", "low", "high"]) (sc := defScope s_Trees_freed) (by decide +kernel)) (fun _ _ _ _ _ => (pg_name (i := 5) sc_Trees_freed.nd rfl (Or.inl rfl))) (fun _ _ _ _ _ => (pts_one (pt_cmpR op_ge (pv 5) (pv 4) (nomark _)))) (fun _ _ _ _ _ => (pv 5))) pa_nil)))
      (pss_cons (ps_set (i := 7) sc_Trees_freed.nd rfl (Or.inl rfl) (pe_callTy call_tuple_of (by rfl) T.z_tuple (by decide +kernel) (pa_cons (pe_lc (own := [("its", 5)]) rfl sc_Trees_freed.nd (pi_tup (pv 6)) (blkOk_by (N := ["self", "tree", "levels", "key", "level", "its", "below", "rest", "low", "high"]) (sc := defScope s_Trees_freed) (by decide +kernel)) (fun _ _ _ _ _ => (pg_name (i := 5) sc_Trees_freed.nd rfl (Or.inl rfl))) (fun _ _ _ _ _ => (pts_one (pt_cmpR op_ne (pv 5) (pv 4) (nomark _)))) (fun _ _ _ _ _ => (pv 5))) pa_nil)))
      (pss_cons (ps_par (i := 8) (j := 9) (by rfl) sc_Trees_freed.nd rfl rfl (by decide) rfl rfl (pa_cons (pe_methR (pv 0) T.cl_Trees T.m_Trees_freed (ih) hr pass0 (pa_cons (pe_ix ix_list (pe_fld (pv 0) rfl) (pv 1) (fun _ _ => rfl)) (pa_cons (pv 7) pa_nil))) (pa_cons (pe_methR (pv 0) T.cl_Trees T.m_Trees_freed (ih) hr pass0 (pa_cons (pe_ix ix_list (pe_fld (pv 0) rfl) (pv 1) (fun _ _ => rfl)) (pa_cons (pv 7) pa_nil))) pa_nil)) (by rfl))
      (pss_one (ps_nput hu9 (pe_fld (pv 0) rfl) (pv 3) (pe_ifExp (pt_cmpR op_in_seq (pv 4) (pv 6) (by rfl)) (pe_methR (pv 0) T.cl_Trees T.m_Trees_either (ok_Trees_either T 17) hr18 pass0 (pa_cons (pv 8) (pa_cons (pv 9) pa_nil))) (pe_methR (pv 0) T.cl_Trees T.m_Trees_node (ok_Trees_node T) hr1 pass0 (pa_cons (pv 4) (pa_cons (pv 8) (pa_cons (pv 9) pa_nil))))) rfl)))))) pss_nil)
      (pss_one (ps_ret (pe_nget hu9 (pe_fld (pv 0) rfl) (pv 3) (fun _ _ => rfl))))))), ?_⟩
  have C := T.cl_Trees
  refine ⟨_, rfl, (by show 2 ≤ sizeLine; decide), fun q0 hq0 => ?_⟩
  refine ⟨q0, _, rfl, .inr (SqT.of upd_same), rfl, rfl, _, rfl, ?_⟩
  have st0 := st.new hq0 (.tup [.int 0, .int 1])
  have K0 : Keeps (fps A) H (upd H q0 (.tup [.int 0, .int 1])) := Keeps.new hq0 _
  generalize upd H q0 (.tup [.int 0, .int 1]) = H0 at st0 K0 ⊢
  have ha0 := K0.tup ha (st.tup_ne ha)
  rw [show (if false = true then !inV (.int (i : Int)) [.int 0, .int 1] else inV (.int (i : Int)) [.int 0, .int 1]) = inV (.int (i : Int)) [.int 0, .int 1] from rfl, inV_ends]
  refine ite2 (fun c => ?_) (fun c => ?_)
  · refine iteT ⟨_, rfl, ?_⟩
    have c' : i = 0 ∨ i = 1 := by simpa using c
    have e : ∃ b, t = .leaf b := c'.elim (fun z => ⟨_, (st.ok.is0 hi).mp z⟩) fun z => ⟨_, (st.ok.is1 hi).mp z⟩
    obtain ⟨b, e⟩ := e
    exact k i S H0 (st0.mono (by omega)) (Ext.refl S) K0 (by rw [e, BT.freed_leaf, ← e]; exact hi)
  have c' : i ≠ 0 ∧ i ≠ 1 := by simpa using c
  obtain ⟨i0, i1⟩ := c'
  refine ⟨_, rfl, (by show 0 ≤ sizeLine; decide), fun q1 hq1 => ?_⟩
  have st1 := st0.new hq1 (.tup [])
  have K1 : Keeps (fps A) H (upd H0 q1 (.tup [])) := K0.trans (Keeps.new hq1 _)
  have ha1 : (upd H0 q1 (.tup [])) a = some (.tup (nums ls)) := by rw [upd_ne (ne_of_none ha0 hq1)]; exact ha0
  have hz1 : (upd H0 q1 (.tup [])) q1 = some (.tup []) := upd_same
  generalize upd H0 q1 (.tup []) = H1 at st1 K1 ha1 hz1 ⊢
  refine ⟨a, q1, ls.map fun (n : Nat) => (n : Int), [], rfl, rfl, SqT.of (by rw [← nums_ints]; exact ha1), SqT.of hz1, _, rfl, ?_⟩
  refine ite2 (fun c => ?_) (fun c => ?_)
  · have c' : ls.map (fun (n : Nat) => (n : Int)) = [] := of_decide_eq_true c
    have c2 : ls = [] := List.map_eq_nil_iff.mp c'
    refine ⟨_, rfl, ?_⟩
    exact k i S H1 (st1.mono (by omega)) (Ext.refl S) K1 (by rw [c2, BT.freed_nil gt]; exact hi)
  cases t with
  | leaf b =>
    cases b with
    | false => exact absurd ((st.ok.is0 hi).mpr rfl) i0
    | true => exact absurd ((st.ok.is1 hi).mpr rfl) i1
  | node v x y =>
  obtain ⟨vL, g1, g2, g3, gx, gy⟩ := id gt
  have hlv : l ≤ v := hl1
  -- key = ('freed', tree, levels)
  refine ⟨_, rfl, _, rfl, (by show 3 ≤ sizeLine; decide), fun q hq => ?_⟩
  have st2 := st1.new hq (.tup [.str "freed", .int i, .ref a])
  have kt : upd H1 q (.tup [.str "freed", .int i, .ref a]) q = some (.tup [.str "freed", .int i, .ref a]) := upd_same
  have K2 : Keeps (fps A) H (upd H1 q (.tup [.str "freed", .int i, .ref a])) := K1.trans (Keeps.new hq _)
  have ha2 : (upd H1 q (.tup [.str "freed", .int i, .ref a])) a = some (.tup (nums ls)) := by rw [upd_ne (ne_of_none ha1 hq)]; exact ha1
  generalize upd H1 q (.tup [.str "freed", .int i, .ref a]) = H2 at st2 kt K2 ha2 ⊢
  obtain ⟨tk, nd, mk, hl⟩ := st2.td
  have hd := depth_free i ls
  refine ⟨_, rfl, _, rfl, p, _, _, _, _, rfl, st2.ob, C, T.n_Trees_own_told, f_told _ _, A.td, q, tk, _, rfl, rfl, nd, keyH_free kt ha2, hd, _, rfl, ?_⟩
  cases e : valV tk (kFree i ls) with
  | some u =>
    obtain ⟨z, rfl, hz⟩ := mk.freed i _ ls hi u e
    refine iteF ?_
    refine ⟨_, rfl, p, _, _, _, _, rfl, st2.ob, C, T.n_Trees_own_told, f_told _ _, _, rfl, A.td, q, tk, _, _, rfl, rfl, nd, keyH_free kt ha2, hd, e, ?_⟩
    exact k z S H2 (st2.mono (by omega)) (Ext.refl S) K2 hz
  | none =>
    refine iteT ?_
    -- level = self.own_level[tree]
    refine ⟨_, rfl, p, _, _, _, _, rfl, st2.ob, C, T.n_Trees_own_level, f_level _ _, _, rfl, A.lv, _, _, _, rfl, rfl, SqL.of st2.lv, atI_lev hi, ?_⟩
    rw [show BT.lev L (.node v x y) = v from rfl]
    -- below = tuple([its for its in levels if its >= level])
    refine ⟨_, rfl, a, rfl, ⟨_, SqT.of ha2⟩, fun D hD => ?_⟩
    have hnums : ∀ (bs : List Nat), bs.length ≤ 1000 → (nums bs).length < sizeLine := fun bs h => by rw [List.length_map]; exact small1000 h
    refine lc_tup (K := K) (a := a) (xs := nums ls) (fun j H' => H' = upd H2 D (.lst (nums ((ls.take j).filter fun m => decide (v ≤ m))))) rfl (fun j H' _ e => by rw [e]; exact SqT.of (by rw [upd_ne (ne_of_none ha2 hD)]; exact ha2)) ?_ ?_
    · rintro j z H' hz rfl
      obtain ⟨x', hx', rfl⟩ : ∃ x', ls[j]? = some x' ∧ z = V.int (x' : Int) := by
        rw [List.getElem?_map] at hz
        cases e : ls[j]? with
        | none => rw [e] at hz; cases hz
        | some x => rw [e] at hz; exact ⟨x, rfl, (Option.some.inj hz).symm⟩
      refine ⟨rfl, _, rfl, _, rfl, _, _, rfl, rfl, _, rfl, ?_⟩
      have hf := filter_more (p := fun m => decide (v ≤ m)) hx'
      refine ite2 (fun c => ?_) (fun c => ?_)
      · have c' : v ≤ x' := by have := of_decide_eq_true c; omega
        refine ⟨_, rfl, _, upd_same, hnums _ (by have := List.length_filter_le (fun m => decide (v ≤ m)) (ls.take j); rw [List.length_take] at this; omega), ?_⟩
        rw [upd_upd, hf, if_pos (by simpa using c')]
        show _ = upd H2 D (.lst (nums (_ ++ [x'])))
        rw [nums_app]
        rfl
      · have c' : ¬ v ≤ x' := by have := of_decide_eq_false (Bool.eq_false_iff.mpr c); omega
        rw [hf, if_neg (by simpa using c')]
    rintro H' rfl
    rw [show (nums ls).length = ls.length by simp, List.take_length]
    have hbl : (ls.filter fun m => decide (v ≤ m)).length ≤ 1000 := Nat.le_trans (List.length_filter_le _ _) h1000
    have hfree := BT.freed_node gt ls
    generalize (ls.filter fun m => decide (v ≤ m)) = bs at hbl hfree ⊢
    have K3 : Keeps (fps A) H (upd H2 D (.lst (nums bs))) := K2.trans (Keeps.new hD _)
    have st3 := st2.new hD (.lst (nums bs))
    have kt3 : (upd H2 D (.lst (nums bs))) q = some (.tup [.str "freed", .int i, .ref a]) := by rw [upd_ne (ne_of_none kt hD)]; exact kt
    have ha3 : (upd H2 D (.lst (nums bs))) a = some (.tup (nums ls)) := by rw [upd_ne (ne_of_none ha2 hD)]; exact ha2
    have hD3 : (upd H2 D (.lst (nums bs))) D = some (.lst (nums bs)) := upd_same
    generalize upd H2 D (.lst (nums bs)) = H3 at st3 K3 kt3 ha3 hD3 ⊢
    refine ⟨D, _, rfl, .inl ⟨SqL.of hD3, fun b hb => ?_⟩⟩
    have K4 : Keeps (fps A) H (upd H3 b (.tup (nums bs))) := K3.trans (Keeps.new hb _)
    have st4 := st3.new hb (.tup (nums bs))
    have kt4 : (upd H3 b (.tup (nums bs))) q = some (.tup [.str "freed", .int i, .ref a]) := by rw [upd_ne (ne_of_none kt3 hb)]; exact kt3
    have ha4 : (upd H3 b (.tup (nums bs))) a = some (.tup (nums ls)) := by rw [upd_ne (ne_of_none ha3 hb)]; exact ha3
    have hb4 : (upd H3 b (.tup (nums bs))) b = some (.tup (nums bs)) := upd_same
    generalize upd H3 b (.tup (nums bs)) = H4 at st4 K4 kt4 ha4 hb4 ⊢
    -- rest = tuple([its for its in below if its != level])
    refine ⟨_, rfl, b, rfl, ⟨_, SqT.of hb4⟩, fun F hF => ?_⟩
    refine lc_tup (K := K) (a := b) (xs := nums bs) (fun j H' => H' = upd H4 F (.lst (nums ((bs.take j).filter fun m => decide (m ≠ v))))) rfl (fun j H' _ e => by rw [e]; exact SqT.of (by rw [upd_ne (ne_of_none hb4 hF)]; exact hb4)) ?_ ?_
    · rintro j z H' hz rfl
      obtain ⟨x', hx', rfl⟩ : ∃ x', bs[j]? = some x' ∧ z = V.int (x' : Int) := by
        rw [List.getElem?_map] at hz
        cases e : bs[j]? with
        | none => rw [e] at hz; cases hz
        | some x => rw [e] at hz; exact ⟨x, rfl, (Option.some.inj hz).symm⟩
      refine ⟨rfl, _, rfl, _, rfl, rfl, _, rfl, ?_⟩
      have hf := filter_more (p := fun m => decide (m ≠ v)) hx'
      refine ite2 (fun c => ?_) (fun c => ?_)
      · have c' : x' ≠ v := fun e => by rw [e] at c; simp at c
        refine ⟨_, rfl, _, upd_same, hnums _ (by have := List.length_filter_le (fun m => decide (m ≠ v)) (bs.take j); rw [List.length_take] at this; omega), ?_⟩
        rw [upd_upd, hf, if_pos (by simpa using c')]
        show _ = upd H4 F (.lst (nums (_ ++ [x'])))
        rw [nums_app]
        rfl
      · have c' : x' = v := by
          by_cases e : x' = v
          · exact e
          · have : ¬ (V.int (x' : Int) = V.int (v : Int)) := fun z => e (by injection z with z; omega)
            simp [this] at c
        rw [hf, if_neg (by simpa using c')]
    rintro H' rfl
    rw [show (nums bs).length = bs.length by simp, List.take_length]
    have hrl : (bs.filter fun m => decide (m ≠ v)).length ≤ 1000 := Nat.le_trans (List.length_filter_le _ _) hbl
    generalize (bs.filter fun m => decide (m ≠ v)) = rs at hrl hfree ⊢
    have K5 : Keeps (fps A) H (upd H4 F (.lst (nums rs))) := K4.trans (Keeps.new hF _)
    have st5 := st4.new hF (.lst (nums rs))
    have kt5 : (upd H4 F (.lst (nums rs))) q = some (.tup [.str "freed", .int i, .ref a]) := by rw [upd_ne (ne_of_none kt4 hF)]; exact kt4
    have ha5 : (upd H4 F (.lst (nums rs))) a = some (.tup (nums ls)) := by rw [upd_ne (ne_of_none ha4 hF)]; exact ha4
    have hb5 : (upd H4 F (.lst (nums rs))) b = some (.tup (nums bs)) := by rw [upd_ne (ne_of_none hb4 hF)]; exact hb4
    have hF5 : (upd H4 F (.lst (nums rs))) F = some (.lst (nums rs)) := upd_same
    generalize upd H4 F (.lst (nums rs)) = H5 at st5 K5 kt5 ha5 hb5 hF5 ⊢
    refine ⟨F, _, rfl, .inl ⟨SqL.of hF5, fun r hr' => ?_⟩⟩
    have K6 : Keeps (fps A) H (upd H5 r (.tup (nums rs))) := K5.trans (Keeps.new hr' _)
    have st6 := st5.new hr' (.tup (nums rs))
    have kt6 : (upd H5 r (.tup (nums rs))) q = some (.tup [.str "freed", .int i, .ref a]) := by rw [upd_ne (ne_of_none kt5 hr')]; exact kt5
    have ha6 : (upd H5 r (.tup (nums rs))) a = some (.tup (nums ls)) := by rw [upd_ne (ne_of_none ha5 hr')]; exact ha5
    have hb6 : (upd H5 r (.tup (nums rs))) b = some (.tup (nums bs)) := by rw [upd_ne (ne_of_none hb5 hr')]; exact hb5
    have hr6 : (upd H5 r (.tup (nums rs))) r = some (.tup (nums rs)) := upd_same
    generalize upd H5 r (.tup (nums rs)) = H6 at st6 K6 kt6 ha6 hb6 hr6 ⊢
    -- what it costs
    have cost : 2 + 2 * BT.cf (L - (v + 1)) + 2 ^ (L - (v + 1) + 1) ≤ BT.cf (L - l) := by
      have := BT.cf_mono (m := L - (v + 1) + 1) (k := L - l) (by omega)
      exact this
    have pos : 0 < 2 ^ (L - (v + 1) + 1) := Nat.pow_pos (by decide)
    obtain ⟨x1, y1, h1, h2, h3, h4⟩ := st6.ok.ch i v x y hi
    -- low, high = (self.freed(self.own_low[tree], rest), self.freed(self.own_high[tree], rest))
    refine ⟨_, rfl, p, _, _, rfl, st6.ob, no_freed _ _, _, rfl, p, _, _, _, _, rfl, st6.ob, C, T.n_Trees_own_low, f_low _ _, _, rfl, A.lo, _, _, _, rfl, rfl, SqL.of st6.lo, atI_nums h1, _, rfl,
      p, r, A, L, S, n, v + 1, x1, x, rs, rfl, st6, (by omega), h16, hr6, hrl, h3, g1, (by omega), fun c1 S7 H7 st7 E7 K7 hc1 => ?_⟩
    obtain ⟨x2, y2, h1', h2', h3', h4'⟩ := st7.ok.ch i v x y (E7 _ _ hi)
    have hr7 := K7.tup hr6 (st6.tup_ne hr6)
    refine ⟨_, rfl, p, _, _, rfl, st7.ob, no_freed _ _, _, rfl, p, _, _, _, _, rfl, st7.ob, C, T.n_Trees_own_high, f_high _ _, _, rfl, A.hi, _, _, _, rfl, rfl, SqL.of st7.hi, atI_nums h2', _, rfl,
      p, r, A, L, S7, _, v + 1, y2, y, rs, rfl, st7, (by omega), h16, hr7, hrl, h4', g2, (by omega), fun c2 S8 H8 st8 E8 K8 hc2 => ?_⟩
    refine ⟨_, _, rfl, ?_⟩
    have K78 : Keeps (fps A) H6 H8 := K7.trans K8
    have kt8 := K78.tup kt6 (st6.tup_ne kt6)
    have ha8 := K78.tup ha6 (st6.tup_ne ha6)
    have hb8 := K78.tup hb6 (st6.tup_ne hb6)
    have lvx := BT.freed_lev (ls := rs) gx vL g1
    have lvy := BT.freed_lev (ls := rs) gy vL g2
    -- what comes is told at the key
    have fin : ∀ (c3 : Nat) (S9 : Sto) (H9 : Hp) (n9 : Nat), TAt P w (TC K) H9 p A L S9 n9 → n9 + 1 ≤ n + BT.cf (L - l) → Ext S8 S9 → Keeps (fps A) H8 H9 → S9.ts[c3]? = some (BT.freed L (.node v x y) ls) →
        ∃ (d b : Addr) (kvs : List (NestedKey × V)) (k' : NestedKey), V.ref A.td = .ref d ∧ V.ref q = .ref b ∧ NDict P w H9 d kvs ∧ KeyH H9 k' (.ref b) ∧ k'.depth ≤ 8 ∧ kvs.length < sizeLine ∧ ∀ o, NDict P w (upd H9 d o) d (putK kvs k' (.int c3)) → (∀ ps, o ≠ .tbl ps) →
          TAt P w (TC K) (upd H9 d o) p A L S9 (n + BT.cf (L - l)) ∧ Keeps (fps A) H (upd H9 d o) ∧ ∃ kvs2, NDict P w (upd H9 d o) A.td kvs2 ∧ KeyH (upd H9 d o) (kFree i ls) (.ref q) ∧ valV kvs2 (kFree i ls) = some (.int c3) := by
      intro c3 S9 H9 n9 st9 hn9 E9 K9 hc3
      have kt9 := K9.tup kt8 (st8.tup_ne kt8)
      have ha9 := K9.tup ha8 (st8.tup_ne ha8)
      obtain ⟨tk9, nd9, mk9, hl9⟩ := st9.td
      refine ⟨A.td, q, tk9, kFree i ls, rfl, rfl, nd9, keyH_free kt9 ha9, hd, cap_line (by omega), fun o nd10 nt => ?_⟩
      have hi9 := E9 _ _ (E8 _ _ (E7 _ _ hi))
      have hmi : i < S9.ts.length := (List.getElem?_eq_some_iff.mp hi9).1
      have mk10 : Mok L S9 (putK tk9 (kFree i ls) (.int c3)) := by
        refine mk9.put hmi (fun j' hj' => ?_) (fun j' a b hx' _ _ _ => absurd hx' (by decide +kernel)) (fun j' a b hx' _ _ _ => absurd hx' (by decide +kernel)) (fun a hx' _ _ => absurd hx' (by decide +kernel)) (fun a' ls' _ hls ha' => ?_)
        · simp only [List.cons.injEq, and_true] at hj'
          unfold kNums at hj'
          cases hj'
        · simp only [List.cons.injEq, and_true] at hls
          have els := kNums_inj hls
          have e1 := Option.some.inj (ha'.symm.trans hi9)
          subst els e1
          exact ⟨c3, rfl, hc3⟩
      have hl10 := length_putK tk9 (kFree i ls) (.int c3)
      have st10 := st9.told nd10 nt mk10 (by omega)
      have K10 : Keeps (fps A) H9 (upd H9 A.td o) := Keeps.upd_mem (by simp [fps]) o
      have kt10 := K10.tup kt9 (st9.tup_ne kt9)
      have ha10 := K10.tup ha9 (st9.tup_ne ha9)
      exact ⟨st10.mono hn9, (K6.trans K78).trans (K9.trans K10), _, nd10, keyH_free kt10 ha10, by rw [valV_put, if_pos rfl]⟩
    refine ⟨_, rfl, _, rfl, b, _, rfl, .inr (SqT.of hb8), rfl, flat_nums bs, _, rfl, ?_⟩
    rw [show (if false = true then !inV (.int (v : Int)) (nums bs) else inV (.int (v : Int)) (nums bs)) = inV (.int (v : Int)) (nums bs) from rfl, inV_nums]
    refine ite2 (fun c => ?_) (fun c => ?_)
    · have c' : v ∈ bs := of_decide_eq_true c
      rw [if_pos c'] at hfree
      have cb := BT.cs_bound (L - (v + 1)) (v + 1) (BT.freed L x rs) (BT.freed L y rs)
      refine ⟨_, rfl, p, _, _, rfl, st8.ob, no_either _ _, _, rfl, _, rfl, p, A, L, S8, _, v + 1, c1, c2, _, _, rfl, st8, (by omega), h16, E8 _ _ hc1, hc2, lvx, lvy, (by omega), fun c3 S9 H9 st9 E9 K9 hc3 => ?_⟩
      obtain ⟨d', b', kvs, k', e1, e2, e3, e4, e5, e6, e7⟩ := fin c3 S9 H9 _ st9 (by omega) E9 K9 (by rw [hfree]; exact hc3)
      refine ⟨_, rfl, p, _, _, _, _, rfl, st9.ob, C, T.n_Trees_own_told, f_told _ _, _, rfl, d', b', kvs, k', e1, e2, e3, e4, e5, e6, fun o nd10 nt => ?_⟩
      obtain ⟨st10, K10, kvs2, nd2, kh, hv⟩ := e7 o nd10 nt
      refine ⟨_, rfl, p, _, _, _, _, rfl, st10.ob, C, T.n_Trees_own_told, f_told _ _, _, rfl, A.td, q, kvs2, _, .int c3, rfl, rfl, nd2, kh, hd, hv, ?_⟩
      exact k c3 S9 _ st10 ((E7.trans E8).trans E9) K10 (by rw [hfree]; exact hc3)
    · have c' : v ∉ bs := of_decide_eq_false (Bool.eq_false_iff.mpr c)
      rw [if_neg c'] at hfree
      refine ⟨_, rfl, p, _, _, rfl, st8.ob, no_node _ _, _, rfl, _, rfl, _, rfl, p, A, L, S8, _, v, c1, c2, _, _, rfl, st8, (by omega), E8 _ _ hc1, hc2, vL, lvx, lvy, fun c3 S9 H9 st9 E9 K9 hc3 => ?_⟩
      obtain ⟨d', b', kvs, k', e1, e2, e3, e4, e5, e6, e7⟩ := fin c3 S9 H9 _ st9 (by omega) E9 K9 (by rw [hfree]; exact hc3)
      refine ⟨_, rfl, p, _, _, _, _, rfl, st9.ob, C, T.n_Trees_own_told, f_told _ _, _, rfl, d', b', kvs, k', e1, e2, e3, e4, e5, e6, fun o nd10 nt => ?_⟩
      obtain ⟨st10, K10, kvs2, nd2, kh, hv⟩ := e7 o nd10 nt
      refine ⟨_, rfl, p, _, _, _, _, rfl, st10.ob, C, T.n_Trees_own_told, f_told _ _, _, rfl, A.td, q, kvs2, _, .int c3, rfl, rfl, nd2, kh, hd, hv, ?_⟩
      exact k c3 S9 _ st10 ((E7.trans E8).trans E9) K10 (by rw [hfree]; exact hc3)
end
end Wv

end
section
set_option maxRecDepth 100000
set_option maxHeartbeats 8000000
/-! The methods of Trees: put, put_back, first; doubled. Printed from K73T6.tpl by tm.py. -/
namespace Wv
open PySem PySem.Spec PyProof.Rows L2
/-- what put, put_back take in at most -/
abbrev pcap : Nat := 1431100
theorem keys_signs (q : BT.Pat) : (signKvs q).map (·.1) = ((BT.lits 0 q).map fun x => (x.1 : Int)).map Sum.inl := by
  unfold signKvs
  rw [List.map_map, List.map_map]
  rfl
theorem lits_len (q : BT.Pat) : ∀ i, (BT.lits i q).length ≤ q.length := by
  induction q with
  | nil => intro i; exact Nat.le_refl _
  | cons o r ih =>
    intro i
    cases o with
    | none => have := ih (i + 1); show (BT.lits (i + 1) r).length ≤ _; rw [List.length_cons]; omega
    | some b => have := ih (i + 1); show ((i, b) :: BT.lits (i + 1) r).length ≤ _; rw [List.length_cons, List.length_cons]; omega
theorem sorted_signs {q : BT.Pat} {ys : List Int} (hp : ys.Perm ((BT.lits 0 q).map fun x => (x.1 : Int))) (h : ys.Pairwise (· ≤ ·)) : ys = (BT.levs q).map fun (n : Nat) => (n : Int) := by
  have e : (BT.levs q).map (fun (n : Nat) => (n : Int)) = (BT.lits 0 q).map fun x => (x.1 : Int) := by unfold BT.levs; rw [List.map_map]; rfl
  rw [e]
  refine List.Perm.eq_of_pairwise (fun a b _ _ hab hba => Int.le_antisymm hab hba) h ?_ hp
  rw [List.pairwise_map]
  exact (BT.lits_sorted q 0).imp fun h => by omega
def spPut (P : Program) (w : World) (C : Addr) (op : Nat → BT → BT.Pat → BT) : Sp := fun vs H Q _ => ∃ (p d : Addr) (A : TA) (L : Nat) (S : Sto) (n i : Nat) (t : BT) (q : BT.Pat), vs = [.ref p, .int i, .ref d] ∧ TAt P w C H p A L S n ∧ L ≤ 16 ∧
  H d = some (.dK (signKvs q)) ∧ q.length = L ∧ S.ts[i]? = some t ∧ n + pcap ≤ cap ∧
  ∀ (k : Nat) (S' : Sto) (H' : Hp), TAt P w C H' p A L S' (n + pcap) → Ext S S' → Keeps (fps A) H H' → S'.ts[k]? = some (op L t q) → Q (.int k) H'
abbrev bits (bs : List Bool) : List V := bs.map fun b => V.int (bnum b : Nat)
def spFirst (P : Program) (w : World) (C : Addr) : Sp := fun vs H Q _ => ∃ (p : Addr) (A : TA) (L : Nat) (S : Sto) (n i : Nat) (t : BT), vs = [.ref p, .int i] ∧ TAt P w C H p A L S n ∧ L ≤ 16 ∧ S.ts[i]? = some t ∧
  (t = .leaf false → Q .non H) ∧ (t ≠ .leaf false → ∀ (a : Addr) (H' : Hp), Keeps [] H H' → H a = none → H' a = some (.lst (bits (BT.first L 0 t))) → Q (.ref a) H')
def spDoubled : Sp := fun vs H Q _ => ∃ n : Nat, vs = [.int n] ∧ n ≤ 1000 ∧ Q (.int ((2 ^ n : Nat) : Int)) H
section
variable {P : Program} {w : World} {K : PySem.W.Frag} {mg : Str → Option Value} {base h : Heap} (T : Tp K mg w h)
include T
theorem ok_Trees_put : FnR P w K mg base CX0 36 (TM K "put") (spPut P w (TC K) BT.put) := by
  refine fnR0_of T.F_Trees_put sc_Trees_put (fun _ _ _ _ _ _ us hl => match us, hl with | [_, _, _], _ => rfl) (fun vs H Q E h => ?_) (fun cdv AA outer s H vs Q E hr h => ?_)
  · obtain ⟨p, d, A, L, S, n, i, t, q, rfl, _⟩ := h
    rfl
  obtain ⟨p, d, A, L, S, n, i, t, q, rfl, st, h16, hd, hq, hi, hc, k⟩ := h
  refine ⟨_, (pss_one (ps_ret (pe_methR (pv 0) T.cl_Trees T.m_Trees_both (ok_Trees_both T 17) (hr.mono (by decide)) pass0 (pa_cons (pe_methR (pv 0) T.cl_Trees T.m_Trees_freed (ok_Trees_freed T 17) (hr.mono (by decide)) pass0 (pa_cons (pv 1) (pa_cons (pe_callTy call_tuple_of (by rfl) T.z_tuple (by decide +kernel) (pa_cons (pe_callB (call_sortedDI rfl) (by rfl) T.z_sorted (by decide +kernel) (pa_cons (pv 2) pa_nil)) pa_nil)) pa_nil))) (pa_cons (pe_methR (pv 0) T.cl_Trees T.m_Trees_row (ok_Trees_row T) (hr.mono (by decide)) pass0 (pa_cons (pv 2) pa_nil)) pa_nil))))), ?_⟩
  have C := T.cl_Trees
  have h63 : ((BT.lits 0 q).map fun x => (x.1 : Int)).length < 64 := by rw [List.length_map]; have := lits_len q 0; omega
  have hpc : pcap = 1431100 := rfl
  have h17 := BT.cf16 L h16
  have hcb := BT.cs_bound L 0 (BT.freed L t (BT.levs q)) (BT.rowT (BT.lits 0 q))
  have h2 : 2 ^ (L + 1) ≤ 2 ^ 17 := Nat.pow_le_pow_right (by decide) (by omega)
  have h3 : (2 : Nat) ^ 17 = 131072 := by decide
  refine ⟨_, rfl, p, _, _, rfl, st.ob, no_both _ _, _, rfl, p, _, _, rfl, st.ob, no_freed _ _, _, rfl, _, rfl, d, _, _, rfl, .inl hd, keys_signs q, h63, fun ys a hperm hord hna => ?_⟩
  rw [sorted_signs hperm hord, ← nums_ints]
  refine ⟨a, _, rfl, .inl ⟨SqL.of upd_same, fun b hb => ?_⟩⟩
  have K1 : Keeps (fps A) H (upd (upd H a (.lst (nums (BT.levs q)))) b (.tup (nums (BT.levs q)))) := (Keeps.new hna _).trans (Keeps.new hb _)
  have st1 := (st.new hna (.lst (nums (BT.levs q)))).new hb (.tup (nums (BT.levs q)))
  have hb1 : (upd (upd H a (.lst (nums (BT.levs q)))) b (.tup (nums (BT.levs q)))) b = some (.tup (nums (BT.levs q))) := upd_same
  generalize upd (upd H a (.lst (nums (BT.levs q)))) b (.tup (nums (BT.levs q))) = H1 at K1 st1 hb1 ⊢
  have hd1 := K1 d _ hd (st.dk_ne hd)
  have hl1000 : (BT.levs q).length ≤ 1000 := by unfold BT.levs; rw [List.length_map]; have := lits_len q 0; omega
  refine ⟨p, b, A, L, S, n, 0, i, t, BT.levs q, rfl, st1, (by omega), h16, hb1, hl1000, hi, Nat.zero_le _, (by rw [Nat.sub_zero]; omega), fun k1 S2 H2 st2 E2 K2 hk1 => ?_⟩
  rw [Nat.sub_zero] at st2
  have hd2 := K2 d _ hd1 (st1.dk_ne hd1)
  refine ⟨_, rfl, p, _, _, rfl, st2.ob, no_row _ _, _, rfl, p, d, A, L, S2, _, q, rfl, st2, hd2, hq, (by omega), fun k2 S3 H3 st3 E3 K3 hk2 => ?_⟩
  refine ⟨p, A, L, S3, _, 0, k1, k2, _, _, rfl, st3, (by omega), h16, E3 _ _ hk1, hk2, Nat.zero_le _, Nat.zero_le _, (by rw [Nat.sub_zero]; omega), fun k3 S4 H4 st4 E4 K4 hk3 => ?_⟩
  rw [Nat.sub_zero] at st4
  exact k k3 S4 H4 (st4.mono (by omega)) ((E2.trans E3).trans E4) ((K1.trans K2).trans (K3.trans K4)) hk3
theorem ok_Trees_put_back : FnR P w K mg base CX0 36 (TM K "put_back") (spPut P w (TC K) BT.putb) := by
  refine fnR0_of T.F_Trees_put_back sc_Trees_put_back (fun _ _ _ _ _ _ us hl => match us, hl with | [_, _, _], _ => rfl) (fun vs H Q E h => ?_) (fun cdv AA outer s H vs Q E hr h => ?_)
  · obtain ⟨p, d, A, L, S, n, i, t, q, rfl, _⟩ := h
    rfl
  obtain ⟨p, d, A, L, S, n, i, t, q, rfl, st, h16, hd, hq, hi, hc, k⟩ := h
  refine ⟨_, (pss_one (ps_ret (pe_methR (pv 0) T.cl_Trees T.m_Trees_freed (ok_Trees_freed T 17) (hr.mono (by decide)) pass0 (pa_cons (pe_methR (pv 0) T.cl_Trees T.m_Trees_both (ok_Trees_both T 17) (hr.mono (by decide)) pass0 (pa_cons (pv 1) (pa_cons (pe_methR (pv 0) T.cl_Trees T.m_Trees_row (ok_Trees_row T) (hr.mono (by decide)) pass0 (pa_cons (pv 2) pa_nil)) pa_nil))) (pa_cons (pe_callTy call_tuple_of (by rfl) T.z_tuple (by decide +kernel) (pa_cons (pe_callB (call_sortedDI rfl) (by rfl) T.z_sorted (by decide +kernel) (pa_cons (pv 2) pa_nil)) pa_nil)) pa_nil))))), ?_⟩
  have C := T.cl_Trees
  have h63 : ((BT.lits 0 q).map fun x => (x.1 : Int)).length < 64 := by rw [List.length_map]; have := lits_len q 0; omega
  have hpc : pcap = 1431100 := rfl
  have h17 := BT.cf16 L h16
  have hcb := BT.cs_bound L 0 t (BT.rowT (BT.lits 0 q))
  have h2 : 2 ^ (L + 1) ≤ 2 ^ 17 := Nat.pow_le_pow_right (by decide) (by omega)
  have h3 : (2 : Nat) ^ 17 = 131072 := by decide
  refine ⟨_, rfl, p, _, _, rfl, st.ob, no_freed _ _, _, rfl, p, _, _, rfl, st.ob, no_both _ _, _, rfl, _, rfl, p, _, _, rfl, st.ob, no_row _ _, _, rfl, p, d, A, L, S, n, q, rfl, st, hd, hq, (by omega), fun k2 S3 H3 st3 E3 K3 hk2 => ?_⟩
  refine ⟨p, A, L, S3, _, 0, i, k2, _, _, rfl, st3, (by omega), h16, E3 _ _ hi, hk2, Nat.zero_le _, Nat.zero_le _, (by rw [Nat.sub_zero]; omega), fun k3 S4 H4 st4 E4 K4 hk3 => ?_⟩
  rw [Nat.sub_zero] at st4
  have hd4 := (K3.trans K4) d _ hd (st.dk_ne hd)
  refine ⟨_, rfl, d, _, _, rfl, .inl hd4, keys_signs q, h63, fun ys a hperm hord hna => ?_⟩
  rw [sorted_signs hperm hord, ← nums_ints]
  refine ⟨a, _, rfl, .inl ⟨SqL.of upd_same, fun b hb => ?_⟩⟩
  have K5 : Keeps (fps A) H4 (upd (upd H4 a (.lst (nums (BT.levs q)))) b (.tup (nums (BT.levs q)))) := (Keeps.new hna _).trans (Keeps.new hb _)
  have st5 := (st4.new hna (.lst (nums (BT.levs q)))).new hb (.tup (nums (BT.levs q)))
  have hb5 : (upd (upd H4 a (.lst (nums (BT.levs q)))) b (.tup (nums (BT.levs q)))) b = some (.tup (nums (BT.levs q))) := upd_same
  generalize upd (upd H4 a (.lst (nums (BT.levs q)))) b (.tup (nums (BT.levs q))) = H5 at K5 st5 hb5 ⊢
  have hl1000 : (BT.levs q).length ≤ 1000 := by unfold BT.levs; rw [List.length_map]; have := lits_len q 0; omega
  refine ⟨p, b, A, L, S4, _, 0, k3, _, BT.levs q, rfl, st5, (by omega), h16, hb5, hl1000, hk3, Nat.zero_le _, (by rw [Nat.sub_zero]; omega), fun k1 S6 H6 st6 E6 K6 hk1 => ?_⟩
  rw [Nat.sub_zero] at st6
  exact k k1 S6 H6 (st6.mono (by omega)) ((E3.trans E4).trans E6) ((K3.trans K4).trans (K5.trans K6)) hk1
theorem ok_doubled : FnR P w K mg base CX0 1 (He.ga K "doubled") spDoubled := by
  refine fnR0_of T.F_doubled sc_doubled (fun _ _ _ _ _ _ us hl => match us, hl with | [_], _ => rfl) (fun vs H Q E h => ?_) (fun cdv AA outer s H vs Q E hr h => ?_)
  · obtain ⟨n, rfl, _⟩ := h
    rfl
  obtain ⟨n, rfl, hn, k⟩ := h
  refine ⟨_, (pss_cons (ps_set (i := 1) sc_doubled.nd rfl (Or.inl rfl) pe_int)
      (pss_cons (ps_for PassesOwn.never rfl (pi_range1 rfl T.z_range (pa_cons (pv 0) pa_nil)) (pg_name (i := 2) sc_doubled.nd rfl (Or.inl rfl)) (pss_one (ps_set (i := 1) sc_doubled.nd rfl (Or.inl rfl) (pe_op op_mul (pv 1) pe_int))))
      (pss_one (ps_ret (pv 1))))), ?_⟩
  refine ⟨_, rfl, (n : Int), rfl, (by omega), (by omega), for_range (lo := 0) (n := ((n : Nat) : Int).toNat) (fun i σ H' => H' = H ∧ ∃ v : Option V, σ = [some (.int n), some (.int ((2 ^ i : Nat) : Int)), v]) ⟨rfl, none, rfl⟩ ?_ ?_⟩
  · rintro i σ H' hi ⟨rfl, v, rfl⟩
    refine ⟨_, rfl, _, _, rfl, rfl, .inr ⟨by decide, by decide⟩, rfl, some (.int (0 + (i : Int))), ?_⟩
    rw [Nat.pow_succ, Int.natCast_mul]
    rfl
  · rintro σ H' ⟨rfl, v, rfl⟩
    refine ⟨_, rfl, ?_⟩
    rw [Int.toNat_natCast]
    exact k
theorem ok_Trees_first : FnR P w K mg base CX0 2 (TM K "first") (spFirst P w (TC K)) := by
  refine fnR0_of T.F_Trees_first sc_Trees_first (fun _ _ _ _ _ _ us hl => match us, hl with | [_, _], _ => rfl) (fun vs H Q E h => ?_) (fun cdv AA outer s H vs Q E hr h => ?_)
  · obtain ⟨p, A, L, S, n, i, t, rfl, _⟩ := h
    rfl
  obtain ⟨p, A, L, S, n, i, t, rfl, st, h16, hi, k0, k⟩ := h
  refine ⟨_, (pss_cons (ps_if (pt_cmpR op_eq (pv 1) (pe_gint T.i_NOTHING) (nomark _)) (pss_one (ps_ret pe_non)) pss_nil)
      (pss_cons (ps_set (i := 2) sc_Trees_first.nd rfl (Or.inl rfl) (pe_lst pa_nil))
      (pss_cons (ps_for PassesOwn.never rfl (pi_range1 rfl T.z_range (pa_cons (pe_fld (pv 0) rfl) pa_nil)) (pg_name (i := 3) sc_Trees_first.nd rfl (Or.inl rfl)) (pss_cons (ps_asg (pe_methR (pv 0) T.cl_Trees T.m_Trees_halves (ok_Trees_halves T) (hr.mono (by decide)) pass0 (pa_cons (pv 1) (pa_cons (pv 3) pa_nil))) (pg_tup (by rfl) (pgs_cons (pg_name (i := 4) sc_Trees_first.nd rfl (Or.inl rfl)) (pgs_cons (pg_name (i := 5) sc_Trees_first.nd rfl (Or.inl rfl)) pgs_nil))))
      (pss_cons (ps_expr (pe_bm PySem.F.plainAttrs_list PySem.F.slot_list_append PySem.F.type_list_append mt_append (pv 2) (pa_cons (pe_ifExp (pt_cmpR op_ne (pv 4) (pe_gint T.i_NOTHING) (nomark _)) pe_int pe_int) pa_nil)))
      (pss_one (ps_set (i := 1) sc_Trees_first.nd rfl (Or.inl rfl) (pe_ifExp (pt_cmpR op_ne (pv 4) (pe_gint T.i_NOTHING) (nomark _)) (pv 4) (pv 5)))))))
      (pss_one (ps_ret (pv 2)))))), ?_⟩
  have C := T.cl_Trees
  refine ⟨_, rfl, rfl, _, rfl, ?_⟩
  refine ite2 (fun c => ?_) (fun c => ?_)
  · exact k0 ((st.ok.is0 hi).mp (dec_t (j := 0) c))
  have hne : t ≠ .leaf false := fun e => dec_f (j := 0) c ((st.ok.is0 hi).mpr e)
  have gt := st.ok.g hi
  refine ⟨(by show 0 ≤ sizeLine; decide), fun a ha => ?_⟩
  have st1 := st.new ha (.lst [])
  have K1 : Keeps [] H (upd H a (.lst [])) := Keeps.new ha _
  have ha1 : (upd H a (.lst [])) a = some (.lst []) := upd_same
  generalize upd H a (.lst []) = H1 at st1 K1 ha1 ⊢
  refine ⟨_, rfl, p, _, _, _, _, rfl, st1.ob, C, T.n_Trees_own_levels, f_levels _ _, (L : Int), rfl, (by omega), (by omega),
    for_range (lo := 0) (n := ((L : Nat) : Int).toNat) (fun l σ H' => ∃ (j : Nat) (u : BT) (acc : List Bool) (v1 v2 v3 : Option V), σ = [some (.ref p), some (.int j), some (.ref a), v1, v2, v3] ∧ TAt P w (TC K) H' p A L S n ∧ Keeps [] H H' ∧ H' a = some (.lst (bits acc)) ∧ acc.length = l ∧
      S.ts[j]? = some u ∧ l ≤ BT.lev L u ∧ u ≠ .leaf false ∧ BT.first L 0 t = acc ++ BT.first (L - l) l u)
      ⟨i, t, [], none, none, none, rfl, st1, K1, ha1, rfl, hi, Nat.zero_le _, hne, by rw [Nat.sub_zero]; rfl⟩ ?_ ?_⟩
  · rintro l σ H2 hl ⟨j, u, acc, v1, v2, v3, rfl, st2, K2, ha2, hacc, hj, hlv, hu, hfirst⟩
    have hlL : l < L := by omega
    have gu := st.ok.g hj
    have hlv' := BT.half_lev gu hlL hlv
    refine ⟨_, rfl, p, _, _, rfl, st2.ob, no_halves _ _, _, rfl, _, rfl, p, A, L, S, n, l, j, u, (by rw [Int.zero_add]), st2, hj, hlL, fun x y q hx hy hq => ?_⟩
    refine ⟨q, _, rfl, SqT.of upd_same, rfl, _, _, rfl, _, _, rfl, rfl, ?_⟩
    have st3 := st2.new hq (.tup [.int x, .int y])
    have K3 : Keeps [] H2 (upd H2 q (.tup [.int x, .int y])) := Keeps.new hq _
    have ha3 : (upd H2 q (.tup [.int x, .int y])) a = some (.lst (bits acc)) := by rw [upd_ne (ne_of_none ha2 hq)]; exact ha2
    generalize upd H2 q (.tup [.int x, .int y]) = H3 at st3 K3 ha3 ⊢
    have hstep : BT.first (L - l) l u = if BT.half l false u = .leaf false then true :: BT.first (L - (l + 1)) (l + 1) (BT.half l true u) else false :: BT.first (L - (l + 1)) (l + 1) (BT.half l false u) := by
      rw [show L - l = (L - (l + 1)) + 1 by omega]
      rfl
    have hlenacc : (bits acc).length < sizeLine := by rw [List.length_map]; exact small1000 (by omega)
    have hna : p ≠ a := ne_of st3.ob ha3 (by intro z; cases z)
    -- found.append(0 if low != NOTHING else 1)
    have snoc : ∀ b : Bool, bits acc ++ [.int (bnum b : Nat)] = bits (acc ++ [b]) := fun b => by rw [bits, bits, List.map_append]; rfl
    have kst : ∀ o, Keeps [] H (upd H3 a o) := fun o b u e _ => by
      have hb : b ≠ a := fun z => by rw [z, ha] at e; cases e
      rw [upd_ne hb]
      exact (K2.trans K3) b u e (by simp)
    have hst4 : ∀ o, TAt P w (TC K) (upd H3 a (.lst o)) p A L S n := fun o => by
      have hnf : a ∉ fps A := st.none_ne ha
      refine st3.stay (fun b u hb e => ?_) fun b ys e => ?_
      · have hb' : b ≠ a := fun z => by
          rcases hb with hb | hb
          · exact hna (hb.symm.trans z)
          · exact hnf (by rw [← z]; exact hb)
        rw [upd_ne hb']
        exact e
      · rw [upd_ne (ne_of e ha3 (by intro z; cases z))]
        exact e
    refine ⟨_, rfl, .inl ⟨rfl, _, SqL.of ha3⟩, _, rfl, rfl, _, rfl, ?_⟩
    by_cases hz : x = 0
    · -- low is nothing: the sign is 1
      have hz' : BT.half l false u = .leaf false := (st.ok.is0 hx).mp hz
      refine iteF' (by rw [hz]; simp) ?_
      refine ⟨a, _, _, rfl, rfl, ha3, hlenacc, ?_⟩
      refine ⟨_, rfl, rfl, _, rfl, ?_⟩
      refine iteF' (by rw [hz]; simp) ?_
      refine ⟨_, rfl, y, BT.half l true u, acc ++ [true], _, _, _, rfl, hst4 _, kst _, ?_, by rw [List.length_append, hacc]; rfl, hy, hlv' true, ?_, ?_⟩
      · rw [upd_same]; exact congrArg (fun z => some (HO.lst z)) (snoc true)
      · intro e2
        refine hu (BT.canon gu BT.good_leaf fun r => ?_)
        have h1 := BT.half_den gu hlv false r
        have h2 := BT.half_den gu hlv true r
        rw [hz'] at h1
        rw [e2] at h2
        cases hr' : r l with
        | true => rw [← hr', st_self] at h2; exact h2.symm
        | false => rw [← hr', st_self] at h1; exact h1.symm.trans (by rw [hr'])
      · rw [hfirst, hstep, if_pos hz', List.append_assoc]
        rfl
    · have hz' : BT.half l false u ≠ .leaf false := fun e => hz ((st.ok.is0 hx).mpr e)
      have hzi : ¬ (V.int (x : Int) = V.int 0) := fun z => hz (by injection z with z; omega)
      refine iteT' (by simp [hzi]) ?_
      refine ⟨a, _, _, rfl, rfl, ha3, hlenacc, ?_⟩
      refine ⟨_, rfl, rfl, _, rfl, ?_⟩
      refine iteT' (by simp [hzi]) ?_
      refine ⟨_, rfl, x, BT.half l false u, acc ++ [false], _, _, _, rfl, hst4 _, kst _, ?_, by rw [List.length_append, hacc]; rfl, hx, hlv' false, hz', ?_⟩
      · rw [upd_same]; exact congrArg (fun z => some (HO.lst z)) (snoc false)
      · rw [hfirst, hstep, if_neg hz', List.append_assoc]
        rfl
  · rintro σ H2 ⟨j, u, acc, v1, v2, v3, rfl, st2, K2, ha2, hacc, hj, hlv, hu, hfirst⟩
    rw [Int.toNat_natCast] at hacc hfirst
    have e : BT.first L 0 t = acc := by
      rw [hfirst, Nat.sub_self]
      exact List.append_nil _
    exact ⟨_, rfl, k hne a H2 K2 ha (by rw [e]; exact ha2)⟩
end
end Wv

end
section
set_option maxRecDepth 100000
set_option maxHeartbeats 4000000
/-! sorted(d, key=lambda x: 0 - self.field[x]) of a dict with int keys, field a list of ints. -/
namespace L2
open PySem PySem.Spec PyProof.Rows
/-- the lambda's body -/
abbrev lamBody (own fld : Str) (j1 : Nat) (p1 p2 p3 p4 p5 p6 : Pos) : Expr := .BinOp (.Constant (.int 0) j1 p1) .Sub (.Subscript (.Attribute (.Name "self" p2) fld p3) (.Name own p4) p5) p6
theorem lam_turn {prog : Program} {w : World} {A : Around} {s : Shared} {K : PySem.W.Frag} {f c' cc p C dx lv : Addr} {q own fld : Str} {params : Arguments} {scope : Scope} {cl : List (Str × Addr)} {pm ctv : Value} {mA : Str → Option Value} {its : Array Value}
    {i z : Int} {ti tz : Tok} {j1 : Nat} {p1 p2 p3 p4 p5 p6 : Pos} (hdepth : A.depth < recursionLimit)
    (hf : s.heap.get? f = some (PySem.W.kla_obj "<lambda>" q params (lamBody own fld j1 p1 p2 p3 p4 p5 p6) scope cl pm c' ctv))
    (hk : scope.kind = .function) (hco : scope.isCoroutine = false) (hgen : scope.isGenerator = false) (hnc : ∀ y ∈ scope.names, y.2 ≠ .cell) (hown : scope.names.lookup own = some .local) (hself : scope.names.lookup ("self" : Str) = some .free)
    (hcode : ∃ (oc : Obj) (vs : Array Value) (t : Tok), s.heap.get? c' = some oc ∧ oc.data = .fields vs ∧ vs[1]? = some (.str q t))
    (hcl : cl.lookup ("self" : Str) = some cc) (hcell : s.heap.IsCell cc (some (.ref p))) (X : K.In s.heap) (O : ObjM s.heap p dx C mA) (hg : PySem.W.plainGet K C fld = true) (hh : PySem.W.hasDictIn K C = true) (ha : PySem.W.findIn K (.ref C) fld = some none) (hv : mA fld = some (.ref lv))
    (hl : s.heap.IsList lv its) (h0 : 0 ≤ i) (h63 : i < 2 ^ 63) (hi : its[i.toNat]? = some (.int z tz)) (hlim : s.heap.NoLimit)
    (hbind : bindArgs (PySem.W.kla_fn "<lambda>" q params (lamBody own fld j1 p1 p2 p3 p4 p5 p6) scope cl pm (.ref c') ctv) ⟨[.int i ti], []⟩ = pure [(own, .int i ti)])
    (hab : ∀ L, attributeBase (.Name "self" p2) fld (PySem.W.envX q scope L f (.ref c') cl) (eval (.Name "self" p2) (PySem.W.envX q scope L f (.ref c') cl)) = eval (.Name "self" p2) (PySem.W.envX q scope L f (.ref c') cl))
    (hpl : PlainIx (.Name own p4)) (hdo : (own == ("__debug__" : Str)) = false) :
    wpAny (model prog w) A (call (.ref f) [.int i ti]) (PySem.W.KeyPure (.int (0 - z)) s) (fun _ _ => False) s := by
  obtain ⟨oc, vs, t, hoc, hdc, hvc⟩ := hcode
  refine wpAny_call ?_
  refine PySem.W.kla_callFunE hdepth hf rfl hco hgen rfl ⟨c', oc, vs, t, rfl, hoc, hdc, hvc⟩ ?_
  rw [hbind]
  refine wpAny_pure (wpAny_newFunctionEnv hnc (fun y hy => by rw [List.mem_singleton.mp hy]; exact hown) (fun h₁ hns hsb => ⟨hlim.fresh _ hsb, ?_⟩) hk)
  have kp : ∀ b o, s.heap.get? b = some o → h₁.get? b = some o := fun b o e => hsb.extBut b o (Nat.ne_of_lt (Heap.lt_size e)) (Heap.get?_push_of_some _ e)
  show codeAny _ _ (.expr (lamBody own fld j1 p1 p2 p3 p4 p5 p6) (PySem.W.envX q scope s.heap.objs.size f (.ref c') cl)) _ _
  refine PySem.W.kla_codeExpr ?_
  refine wpAny_BinOp (wpAny_Constant_int ?_)
  refine Subscript_ (attr_of (hab _) (wpAny_Name (wpAny_loadName_free hk hself hcl (hcell.keeps kp) ?_) (by decide)))
  refine get_map (X.keeps kp) ⟨kp _ _ O.obj, O.ns.keeps kp, O.ne⟩ hg hh ha hv rfl ?_
  refine wpAny_Name (wpAny_loadName_local hk hown hns (v := .int i ti) (by simp [List.lookup]) ?_) hdo
  refine item_listR (x := .int z tz) (show h₁.IsList lv its from let ⟨o, h1, r⟩ := hl; ⟨o, kp _ _ h1, r⟩) h0 h63 hi ?_ (hpl _ _)
  refine sub_int ?_
  exact ⟨h₁, _, rfl, kp, Reads.int _ _⟩
end L2
namespace L2
open PySem PySem.Spec PyProof.Rows LamX
theorem each_ints {vs : List Value} {ks : List Int} (h : IntsAre vs ks) : PySem.W.EachIs (fun (v : Value) (x : Int) => ∃ t, v = .int x t) vs ks := by
  induction h with
  | nil => exact .nil
  | cons i t _ ih => exact .cons ⟨t, rfl⟩ ih
theorem each_vals {vs : List Value} {ks : List Int} (h : PySem.W.EachIs (fun (v : Value) (x : Int) => ∃ t, v = .int x t) vs ks) : Vals (ks.map V.int) vs := by
  induction h with
  | nil => exact .nil
  | cons r _ ih => exact .cons r ih
/-- sorted of a dict's keys by a lambda: what it asks of the lambda's call -/
theorem sorted_key_dict {X : Cx} {pins : List (Addr × Obj)} {σ : St} {H : Hp} {s : Shared} {d : Addr} {kvs : List (Key × V)} {ks : List Int} {f : Addr} {k : Int → Int} {Q : Value → Shared → Prop} {E : Value → Shared → Prop} (hcalm : X.calm = true) (I : Inv X pins σ H s) (hd : Rd H d (.dK kvs))
    (hks : kvs.map (·.1) = ks.map Sum.inl) (hu : X.A.units + 64 < cLine)
    (turn : ∀ (x : Int) (t : Tok), x ∈ ks → ∀ (h : Heap) (tk : Nat), (∀ b o, s.heap.get? b = some o → h.get? b = some o) →
      wpAny (model X.prog X.w) X.A.in1.in1 (call (.ref f) [.int x t]) (PySem.W.KeyPure (.int (k x)) { s with heap := h, toks := tk }) (fun _ _ => False) { s with heap := h, toks := tk })
    (h : ∀ (ys : List Int) (p : Addr) (s' : Shared), ys.Perm ks → ys.Pairwise (fun a b => k a ≤ k b) → H p = none → Inv X pins σ (upd H p (.lst (ys.map V.int))) s' → Q (.ref p) s') :
    wpAny (model X.prog X.w) X.A (call (.builtin "sorted") [.ref d] [(Str.ofString "key", .ref f)]) Q E s := by
  obtain ⟨z, lo, vs, rel, dd⟩ := dk_rd I.hok hd
  obtain ⟨ep, hat⟩ := dd.dictAt
  have hkeys : vs.map (·.1) = ks.map Sum.inl := rel.keys.symm.trans hks
  have hl : vs.length = ks.length := by
    have e := congrArg List.length hkeys
    rw [List.length_map, List.length_map] at e
    exact e
  have h16 : vs.length ≤ sizeLine := by rw [← rel.length]; exact z
  refine PyProof.Rows.call_function_entry_kw PyProof.Rows.kind_sorted PyProof.Rows.plain_sorted PyProof.Rows.entry_sorted (PyProof.Rows.ksk_s1 _ _) ?_
  unfold Builtin.«sorted»
  refine wpAny_bind (m := checkCount "sorted" 1 1 _) (wpAny_pure ?_)
  refine wpAny_bind (PySem.W.kdu_collect (A := X.A.in1) (PySem.W.kdl_dict (knd := mixKind X.prog X.w) (kvs := vs) (ep := ep) lo) (I.ok.hd hcalm) hat h16 fun h' tk acc hk hacc => ?_)
  have hal : acc.toList.length = ks.length := by rw [Array.length_toList, hacc.1, hl]
  have hS : IntsAre acc.toList ks := ints_each hal fun j v e => by
    obtain ⟨k, x, e1, e2⟩ := hacc.2 j v (by rw [← Array.getElem?_toList]; exact e)
    have e3 : (vs.map (·.1))[j]? = some k := by rw [List.getElem?_map, e1]; rfl
    rw [hkeys, List.getElem?_map] at e3
    cases e4 : ks[j]? with
    | none => rw [e4] at e3; cases e3
    | some y =>
      rw [e4] at e3
      have e5 : Sum.inl y = k := Option.some.inj e3
      subst e5
      rcases keyIs_shape (show keyIs (Sum.inl y) v = true from e2) with ⟨i, t, ek, ev⟩ | ⟨z, t, ek, ev⟩
      · cases ek
        exact ⟨y, t, rfl, ev⟩
      · cases ek
  have hE := each_ints hS
  have hz : acc.toList.length ≤ sizeLine := by rw [hal, ← hl]; exact h16
  have I1 : Inv X pins σ H { s with heap := h', toks := tk } := I.kept hk
  refine wpAny_bind (wpAny_newList ?_ hz)
  have hoL : (h'.push (seqObj "list" acc.toList.toArray 0)).get? h'.objs.size = some (seqObj "list" acc.toList.toArray 0) := Heap.get?_push_size _ rfl
  show wpAny _ _ _ _ _ { s with heap := h'.push (seqObj "list" acc.toList.toArray 0), toks := tk }
  have hmap : ∀ (b : Addr) (o : Obj), s.heap.get? b = some o → b ≠ h'.objs.size ∧ (h'.push (seqObj "list" acc.toList.toArray 0)).get? b = some o := fun b o e =>
    ⟨Nat.ne_of_lt (Heap.lt_size (hk b o e)), Heap.get?_push_of_some _ (hk b o e)⟩
  have hmap' : ∀ (b : Addr) (o : Obj), h'.get? b = some o → b ≠ h'.objs.size ∧ (h'.push (seqObj "list" acc.toList.toArray 0)).get? b = some o := fun b o e =>
    ⟨Nat.ne_of_lt (Heap.lt_size e), Heap.get?_push_of_some _ e⟩
  refine wpAny_bind (wpAny_holding (wpAny_call_entry_kw PyProof.Rows.slot_list_sort ⟨_, hoL, rfl⟩ PyProof.Rows.entry_list_sort ?_ (PyProof.Rows.ksk_l1 _ _)))
  rw [PyProof.Rows.ksk_t1]
  refine PySem.W.keyH_tree (kz := ks.map fun x => PyData.int (k x)) (s := { s with heap := h'.push (seqObj "list" acc.toList.toArray 0), toks := tk }) hoL (by rw [List.length_map]; exact hal.symm) hz
    (PySem.W.AllAlike.of fun _ _ => rfl) (PySem.W.Sortable.others fun b => ⟨by simp, fun xs => by simp⟩) (PySem.W.bound_map (A := X.A.in1.in1) fun x hx => by show X.A.units + 1 + 1 + 0 < _; omega)
    (PySem.W.keyH_turns (k := fun x => PyData.int (k x)) (s := { s with heap := h'.push (seqObj "list" acc.toList.toArray 0), toks := tk }) hE fun v x hR hx h2 tk2 kp => ?_) fun h2 tk2 out c kp hD ko => ?_
  · obtain ⟨t, rfl⟩ := hR
    exact turn x t hx h2 tk2 fun b o e => kp b o (hmap b o e).1 (hmap b o e).2
  have hout := PySem.W.keyedOut_each (fun x => PyData.int (k x)) ko hE
  have hol := (ko.length (by rw [List.length_map]; exact hal.symm)).trans hal
  rw [PySem.W.dataLe_int] at hout
  have hv := each_vals hout
  have hlen : ((ks.mergeSort fun a b => decide (k a ≤ k b)).map V.int).length ≤ sizeLine := by
    rw [List.length_map, List.length_mergeSort, ← hl]
    exact h16
  refine ⟨_, rfl, ?_⟩
  refine wpAny_pure ⟨_, rfl, h (ks.mergeSort fun a b => decide (k a ≤ k b)) h'.objs.size _ (List.mergeSort_perm _ _) ?_ (I1.hok.fresh (Nat.le_refl _)) (I1.laid (t' := tk2) (fun b u e => kp b u (hmap' b u e).1 (hmap' b u e).2) (Nat.le_refl _)
    (show ObjOk X.prog X.w _ _ _ (.lst ((ks.mergeSort fun a b => decide (k a ≤ k b)).map V.int)) from ⟨hlen, out, c, hv, hD⟩))⟩
  have hp := List.pairwise_mergeSort (le := fun a b => decide (k a ≤ k b)) (fun a b c h1 h2 => by simp only [decide_eq_true_eq] at *; omega) (fun a b => by simp only [Bool.or_eq_true, decide_eq_true_eq]; omega) ks
  exact hp.imp fun h => by simpa using h
end L2
namespace L2
open PySem PySem.Spec PyProof.Rows LamX
/-- sorted(d, key=lambda own: 0 - self.fld[own]); si: the slot of self -/
def tSortLam (K : PySem.W.Frag) (T : List (Addr × Str)) (fld : Str) (si : Nat) (ta : TA) : TE := fun σ H Q => ta σ H fun vs H1 => Tabs T H1 ∧ ∃ (d p C dx lv : Addr) (kvs : List (Key × V)) (ks : List Int) (fs : List (Str × V)) (xs : List V) (z : Int → Int), vs = [.ref d] ∧ Rd H1 d (.dK kvs) ∧ kvs.map (·.1) = ks.map Sum.inl ∧
  σ[si]? = some (some (.ref p)) ∧ H1 p = some (.ins C dx fs) ∧ Cls K C ∧ NoAttr K C fld ∧ fs.lookup fld = some (.ref lv) ∧ H1 lv = some (.lst xs) ∧ (∀ k ∈ ks, 0 ≤ k ∧ k < 2 ^ 63 ∧ xs[k.toNat]? = some (.int (z k))) ∧
  ∀ (ys : List Int) (q : Addr) (H2 : Hp), ys.Perm ks → ys.Pairwise (fun a b => 0 - z a ≤ 0 - z b) → ExtN H1 H2 → Tabs T H2 → H2 q = none → Q (.ref q) (upd H2 q (.lst (ys.map V.int)))
theorem pe_sortedLam {X : Cx} {T : List (Addr × Str)} {c P : Addr} {own fld : Str} {params : Arguments} {scope : Scope} (si : Nat) {ta : TA} {e : Expr} {p pos lpos kpos : Pos} {j1 : Nat} {p1 p2 p3 p4 p5 p6 : Pos} (hcalm : X.calm = true) (hu : X.A.units + 64 < cLine) (hdepth : X.A.depth < recursionLimit) (ha : PA X [e] ta)
    (hm : X.mg "sorted" = none) (TB : TabB X.base X.mg c P) (hcode : X.env.code = .ref c) (hmT : (P, X.env.qual ++ "<lambda>") ∈ T) (huT : ∀ p ∈ T, p.1 = P → p.2 = X.env.qual ++ "<lambda>")
    (hdef : defaultsOf params X.env = ([], [])) (hfree : ∀ y ∈ scope.names, y.2 = .free → X.env.scope.names.lookup y.1 = some .cell ∨ X.env.scope.names.lookup y.1 = some .free)
    (hk : scope.kind = .function) (hco : scope.isCoroutine = false) (hgen : scope.isGenerator = false) (hnc : ∀ y ∈ scope.names, y.2 ≠ .cell) (hown : scope.names.lookup own = some .local) (hself : scope.names.lookup ("self" : Str) = some .free)
    (hNs : X.N[si]? = some ("self" : Str)) (hvs : X.env.scope.names.lookup ("self" : Str) = some .cell)
    (hbind : ∀ (q : Str) (cl : List (Str × Addr)) (pm cv ctv v : Value), bindArgs (PySem.W.kla_fn "<lambda>" q params (lamBody own fld j1 p1 p2 p3 p4 p5 p6) scope cl pm cv ctv) ⟨[v], []⟩ = pure [(own, v)])
    (hab : ∀ (q : Str) (L f c' : Addr) (cl : List (Str × Addr)), attributeBase (.Name "self" p2) fld (PySem.W.envX q scope L f (.ref c') cl) (eval (.Name "self" p2) (PySem.W.envX q scope L f (.ref c') cl)) = eval (.Name "self" p2) (PySem.W.envX q scope L f (.ref c') cl))
    (hpl : PlainIx (.Name own p4)) (hdo : (own == ("__debug__" : Str)) = false) (hg : Gl X "sorted" := by rfl)
    (h1 : backTo pos (starEach (e :: []) X.env) = (false, eval e X.env) :: backTo pos (starEach [] X.env) := by rfl) (h2 : (backTo pos (starEach (e :: []) X.env)).any (·.1) = false := by rfl) :
    PE X (.Call (.Name "sorted" p) [e] [⟨some "key", .Lambda params (lamBody own fld j1 p1 p2 p3 p4 p5 p6) scope lpos, kpos⟩] pos) (tSortLam X.K T fld si ta) := by
  refine ⟨fun pins s σ H Q I h => ?_⟩
  refine wpAny_Call_Name_kw (ld_blt I hg hm (by decide +kernel : bootBuiltins "sorted" = some (.builtin "sorted")) ?_ (by decide) (by decide))
  refine PyProof.Rows.callWith_kw (thn (ha.run pos pins s σ H _ I h) fun us s1 ⟨vs, H1, I1, r1, hT, d, p, C, dx, lv, kvs, ks, fs, xs, z, ev, hd, hks, hsi, hp, cls, na, hfl, hlv, hix, q⟩ => ?_) h1 h2 (by rfl) (by rfl)
  subst ev
  obtain rfl := Vals.ref1 r1
  have hfree' : ∀ y ∈ scope.names, y.2 = .free → ∃ c, X.env.cells.lookup y.1 = some c := fun y hy e => I.ok.has y.1 (hfree y hy e)
  show wpAny _ _ (evalAll ((do let v ← eval (.Lambda params (lamBody own fld j1 p1 p2 p3 p4 p5 p6) scope lpos) X.env; standAt pos; pure v) :: [])) _ _ s1
  refine wpAny_evalAll_cons (wpAny_bind (lam_make2 I1 TB hcode hmT huT hT hdef hfree' fun f c' pm ctv H2 s2 I2 eN T2 hf hfn hfr hco' => wpAny_bind (wpAny_standAt (wpAny_pure (wpAny_evalAll_nil ?_)))))
  show wpAny _ _ (call (.builtin "sorted") [.ref d] [(Str.ofString "key", .ref f)]) _ _ s2
  -- what stands behind the lambda's making
  have hd2 : Rd H2 d (.dK kvs) := by
    rcases hd with hd | ⟨o, hd⟩
    · exact .inl (eN _ _ hd fun ps z => by cases z)
    · exact .inr ⟨o, eN _ _ hd fun ps z => by cases z⟩
  have hp2 := eN _ _ hp fun ps z => by cases z
  have hlv2 := eN _ _ hlv fun ps z => by cases z
  -- self's cell
  obtain ⟨m, hn, hloc⟩ := I2.loc
  obtain ⟨u, ru, look⟩ := hloc si "self" (.ref p) hNs hsi (.inr (.inl hvs))
  cases (show u = Value.ref p from ru)
  obtain ⟨cc, hcc, hcell⟩ : ∃ c, X.env.cells.lookup ("self" : Str) = some c ∧ s2.heap.IsCell c (some (.ref p)) := by
    rcases look with ⟨k', _⟩ | ⟨_, c3, e', z'⟩
    · have k' : X.env.scope.names.lookup ("self" : Str) = some .local := k'
      rw [hvs] at k'
      cases k'
    · exact ⟨c3, e', z'⟩
  obtain ⟨cl2, hcl2⟩ : ∃ c, (cloFrom X.env.cells scope.names []).lookup ("self" : Str) = some c := mem_lookup (cloFrom_has (cells := X.env.cells) (acc := []) (PySem.mem_of_lookup hself))
  have ecl : cl2 = cc := by
    rcases cloFrom_mem (PySem.mem_of_lookup hcl2) with hm' | ⟨_, h2'⟩
    · cases hm'
    · rw [h2', hcc]
      rfl
  subst ecl
  obtain ⟨mA, O, rel, _, _, _⟩ := ins_get I2.hok hp2
  obtain ⟨u, hu', ru'⟩ := RelO.some_of (v := .ref lv) (o := mA fld) (by rw [← hfl]; exact rel fld)
  cases (show u = Value.ref lv from ru')
  obtain ⟨hz, its, nn, rv, hl⟩ := (show ObjOk X.prog X.w H2 s2.heap lv (.lst xs) from I2.hok lv _ hlv2)
  obtain ⟨⟨oc, cvs, ct, hoc, hdc, hvc⟩, _, _⟩ := I2.hok c' _ hco'
  refine sorted_key_dict (k := fun x => 0 - z x) hcalm I2 hd2 hks hu (fun x t hx g tk kp => ?_) fun ys qa s3 hperm hord hq I3 => ?_
  · obtain ⟨x0, x63, hxs⟩ := hix x hx
    obtain ⟨w', ew, rw'⟩ := rv.get hxs
    obtain ⟨tz, ez⟩ := (show ∃ t, w' = Value.int (z x) t from rw')
    subst ez
    refine lam_turn (s := { s2 with heap := g, toks := tk }) (by show X.A.depth < _; exact hdepth) (kp _ _ hf) hk hco hgen hnc hown hself ⟨oc, cvs, ct, kp _ _ hoc, hdc, hvc⟩ hcl2 (hcell.keeps kp) (I2.kIn.keeps kp) ⟨kp _ _ O.obj, O.ns.keeps kp, O.ne⟩ (cls.get fld) cls.hd na hu'
      (show g.IsList lv its.toArray from ⟨_, kp _ _ hl, rfl, _, rfl⟩) x0 x63 (by simpa using ew) (I2.nolimit.keeps kp) (hbind _ _ _ _ _ _) (fun L => hab _ L _ _ _) hpl hdo
  · exact ⟨.ref qa, _, I3, rfl, q ys qa H2 hperm hord eN T2 hq⟩
end L2

end
section
set_option maxRecDepth 100000
set_option maxHeartbeats 8000000
/-! The methods of Trees: below. Printed from K73T7.tpl by tm.py. -/
namespace Wv
open PySem PySem.Spec PyProof.Rows L2 LamX
/-! ### tables of code objects beside a store -/
/-- the tables: of below's lambda, of law's -/
def TT (K : PySem.W.Frag) : List (Addr × Str) := [((He.cT K ("Trees", some "below")).2, (("Trees.below" : Str) ++ ".<locals>.") ++ "<lambda>"), ((He.cT K ("law", none)).2, (("law" : Str) ++ ".<locals>.") ++ "<lambda>")]
theorem codeO_ne {P : Program} {w : World} {c d : Addr} {q : Str} {xs : List (NestedKey × Addr × Value)} (h : c = d) : CodeO c q ≠ NDo P w d xs := by
  subst h
  intro e
  unfold CodeO NDo at e
  injection e with e
  have key := congrFun e (⟨Array.replicate (c + 1) { cls := .none, data := .fields #[.none, .str q 0] }, {}⟩ : Heap)
  have hget : (⟨Array.replicate (c + 1) { cls := .none, data := .fields #[.none, .str q 0] }, {}⟩ : Heap).get? c = some { cls := .none, data := .fields #[.none, .str q 0] } := by
    unfold Heap.get?
    simp
  have h1 : ∃ (oc : Obj) (vs : Array Value) (t : Tok), (⟨Array.replicate (c + 1) { cls := .none, data := .fields #[.none, .str q 0] }, {}⟩ : Heap).get? c = some oc ∧ oc.data = .fields vs ∧ vs[1]? = some (.str q t) := ⟨_, _, 0, hget, rfl, rfl⟩
  rw [key] at h1
  obtain ⟨o, es, ep, g1, _, g3, _⟩ := h1
  rw [hget] at g1
  cases g1
  cases g3
section
variable {P : Program} {w : World} {C : Addr} {H H' : Hp} {p : Addr} {A : TA} {L : Nat} {S : Sto} {n : Nat}
theorem TAt.code_ne (st : TAt P w C H p A L S n) {c : Addr} {q : Str} (h : H c = some (CodeO c q)) : c ∉ fps A := by
  obtain ⟨kvs, e1, _⟩ := st.kn
  obtain ⟨xs, e2⟩ := st.tdn
  have e := h
  unfold CodeO at e
  simp only [fps, List.mem_cons, List.not_mem_nil, or_false]
  intro z
  rcases z with z | z | z | z | z
  · rw [z, st.lv] at e; cases e
  · rw [z, st.lo] at e; cases e
  · rw [z, st.hi] at e; cases e
  · rw [z, e1] at e; cases e
  · rw [← z] at e2
    rw [h] at e2
    exact codeO_ne (P := P) (w := w) (c := c) (d := c) rfl (Option.some.inj e2)
theorem TAt.tbl_ne (st : TAt P w C H p A L S n) {c : Addr} {ps : Array Value} (e : H c = some (.tbl ps)) : c ∉ fps A := by
  obtain ⟨kvs, e1, _⟩ := st.kn
  obtain ⟨xs, e2⟩ := st.tdn
  simp only [fps, List.mem_cons, List.not_mem_nil, or_false]
  intro z
  rcases z with z | z | z | z | z
  · rw [z, st.lv] at e; cases e
  · rw [z, st.lo] at e; cases e
  · rw [z, st.hi] at e; cases e
  · rw [z, e1] at e; cases e
  · rw [z, e2] at e; cases e
/-- what changes the store alone leaves the tables -/
theorem TAt.tabs (st : TAt P w C H p A L S n) {T : List (Addr × Str)} (h : Tabs T H) (k : Keeps (fps A) H H') : Tabs T H' := fun q hq => by
  obtain ⟨ps, h1, h2, h3⟩ := h q hq
  refine ⟨ps, k _ _ h1 (st.tbl_ne h1), h2, fun pos cv hc => ?_⟩
  obtain ⟨c, e1, e2⟩ := h3 pos cv hc
  exact ⟨c, e1, k _ _ e2 (st.code_ne e2)⟩
end
theorem tabs_new {H : Hp} {T : List (Addr × Str)} (h : Tabs T H) {p : Addr} (hp : H p = none) (o : HO) : Tabs T (upd H p o) := h.ext fun b u e => by rw [upd_ne (ne_of_none e hp)]; exact e
theorem tabs_keep {H H' : Hp} {T : List (Addr × Str)} (h : Tabs T H) (k : Keeps [] H H') : Tabs T H' := h.ext fun b u e => k b u e (by simp)
/-- a list that is written is no code object's table -/
theorem tabs_lst {H : Hp} {T : List (Addr × Str)} (h : Tabs T H) {a : Addr} {xs : List V} (ha : H a = some (.lst xs)) (o : HO) : Tabs T (upd H a o) := fun q hq => by
  obtain ⟨ps, h1, h2, h3⟩ := h q hq
  refine ⟨ps, by rw [upd_ne (ne_of h1 ha (by intro z; cases z))]; exact h1, h2, fun pos cv hc => ?_⟩
  obtain ⟨c, e1, e2⟩ := h3 pos cv hc
  exact ⟨c, e1, by rw [upd_ne (ne_of e2 ha (by intro z; unfold CodeO at z; cases z))]; exact e2⟩
theorem tabs_dk {H : Hp} {T : List (Addr × Str)} (h : Tabs T H) {a : Addr} {xs : List (Key × V)} (ha : H a = some (.dK xs)) (o : HO) : Tabs T (upd H a o) := fun q hq => by
  obtain ⟨ps, h1, h2, h3⟩ := h q hq
  refine ⟨ps, by rw [upd_ne (ne_of h1 ha (by intro z; cases z))]; exact h1, h2, fun pos cv hc => ?_⟩
  obtain ⟨c, e1, e2⟩ := h3 pos cv hc
  exact ⟨c, e1, by rw [upd_ne (ne_of e2 ha (by intro z; unfold CodeO at z; cases z))]; exact e2⟩
/-- nothing but a code object's table was here -/
def NewX (H : Hp) (a : Addr) : Prop := ∀ o, H a = some o → ∃ ps, o = .tbl ps
theorem NewX.of {H H' : Hp} (k : KeepX [] H H') {a : Addr} (h : H' a = none) : NewX H a := fun o e => by
  by_cases z : ∃ ps, o = .tbl ps
  · exact z
  · have := k a o e (by simp) fun ps q => z ⟨ps, q⟩
    rw [h] at this
    cases this
theorem NewX.ne {H : Hp} {a b : Addr} {o : HO} (h : NewX H a) (hb : H b = some o) (ht : ∀ ps, o ≠ .tbl ps) : b ≠ a := fun z => by
  subst z
  obtain ⟨ps, e⟩ := h o hb
  exact ht ps e
/-! ### what below tells -/
/-- the children of a tree's number -/
def Sto.kid (S : Sto) (k c : Nat) : Prop := S.ls[k]? = some c ∨ S.hs[k]? = some c
structure Below (L : Nat) (S : Sto) (i : Nat) (ks : List Nat) : Prop where
  nd : ks.Nodup
  in_ : ∀ k ∈ ks, 2 ≤ k ∧ k < S.ts.length
  top : i ≤ 1 ∨ i ∈ ks
  kids : ∀ k ∈ ks, ∀ c, S.kid k c → c ≤ 1 ∨ c ∈ ks
  ord : ks.Pairwise fun a b => ∀ t u, S.ts[a]? = some t → S.ts[b]? = some u → BT.lev L u ≤ BT.lev L t
def spBelow (P : Program) (w : World) (K : PySem.W.Frag) : Sp := fun vs H Q _ => ∃ (p : Addr) (A : TA) (L : Nat) (S : Sto) (n i : Nat), vs = [.ref p, .int i] ∧ TAt P w (TC K) H p A L S n ∧ Tabs (TT K) H ∧ i < S.ts.length ∧ n ≤ cap ∧
  ∀ (ks : List Nat) (a : Addr) (H' : Hp), Below L S i ks → KeepX [] H H' → Tabs (TT K) H' → NewX H a → H' a = some (.lst (nums ks)) → Q (.ref a) H'
/-- what holds while the trees below are gathered -/
structure Gath (S : Sto) (i : Nat) (fs lf : List Nat) : Prop where
  nd : fs.Nodup
  in_ : ∀ k ∈ fs, 2 ≤ k ∧ k < S.ts.length
  lin : ∀ k ∈ lf, k < S.ts.length
  top : i ≤ 1 ∨ i ∈ fs ∨ i ∈ lf
  kids : ∀ k ∈ fs, ∀ c, S.kid k c → c ≤ 1 ∨ c ∈ fs ∨ c ∈ lf
  len : lf.length ≤ fs.length + 1
theorem nodup_len {fs : List Nat} {n : Nat} (h : fs.Nodup) (hi : ∀ k ∈ fs, k < n) : fs.length ≤ n := by
  have h1 := h.length_le_of_subset (l₂ := List.range n) fun k hk => List.mem_range.mpr (hi k hk)
  rw [List.length_range] at h1
  exact h1
/-- the dict of what was found -/
def foundKvs (fs : List Nat) : List (Key × V) := fs.map fun (k : Nat) => ((Sum.inl (k : Int) : Key), V.bl true)
theorem found_val {fs : List Nat} {k : Nat} : (valV (foundKvs fs) (Sum.inl (k : Int))).isSome = decide (k ∈ fs) := by
  induction fs with
  | nil => rfl
  | cons f fs ih =>
    unfold foundKvs at ih ⊢
    rw [List.map_cons]
    by_cases e : f = k
    · subst e
      rw [valV_pos rfl]
      simp
    · rw [valV_neg (fun z => e (by
        have z' : (Sum.inl (f : Int) : Key) = Sum.inl (k : Int) := z
        injection z' with z'
        omega)), ih]
      simp [Ne.symm e]
theorem found_keys (fs : List Nat) : (foundKvs fs).map (·.1) = (fs.map fun (k : Nat) => (k : Int)).map Sum.inl := by
  unfold foundKvs
  rw [List.map_map, List.map_map]
  rfl
theorem perm_nums {ys : List Int} {fs : List Nat} (h : ys.Perm (fs.map fun (k : Nat) => (k : Int))) : ∃ ks : List Nat, ys = ks.map (fun (k : Nat) => (k : Int)) ∧ ks.Perm fs := by
  refine ⟨ys.map Int.toNat, ?_, ?_⟩
  · rw [List.map_map]
    have : ∀ y ∈ ys, ((fun (k : Nat) => (k : Int)) ∘ Int.toNat) y = y := fun y hy => by
      obtain ⟨k, _, rfl⟩ := List.mem_map.mp (h.mem_iff.mp hy)
      rfl
    exact (List.map_congr_left this).trans (List.map_id' ys) |>.symm
  · have h2 := h.map Int.toNat
    rw [List.map_map] at h2
    have e : fs.map (Int.toNat ∘ fun (k : Nat) => (k : Int)) = fs := by
      have : ∀ k ∈ fs, (Int.toNat ∘ fun (k : Nat) => (k : Int)) k = k := fun k _ => rfl
      exact (List.map_congr_left this).trans (List.map_id' fs)
    rw [e] at h2
    exact h2
/-- a list's last item -/
theorem last_split {lf : List Nat} (h : lf ≠ []) : ∃ (x : Nat) (r : List Nat), lf = r ++ [x] ∧ (nums lf)[(nums lf).length - 1]? = some (V.int (x : Int)) ∧ (nums lf).dropLast = nums r := by
  refine ⟨lf.getLast h, lf.dropLast, (List.dropLast_concat_getLast h).symm, ?_, ?_⟩
  · conv => lhs; rw [← List.dropLast_concat_getLast h]
    rw [nums_app]
    simp
  · rw [nums, nums, List.map_dropLast]
/-- the level of a number -/
def levOf (L : Nat) (S : Sto) (k : Nat) : Nat := ((S.ts[k]?).map (BT.lev L)).getD 0
theorem levOf_eq {L : Nat} {S : Sto} {k : Nat} {t : BT} (h : S.ts[k]? = some t) : levOf L S k = BT.lev L t := by unfold levOf; rw [h]; rfl
theorem Sok.kids {L : Nat} {S : Sto} (ok : Sok L S) {x : Nat} (h2 : 2 ≤ x) (hx : x < S.ts.length) : ∃ (l a b : Nat) (u v : BT), S.ls[x]? = some a ∧ S.hs[x]? = some b ∧ S.ts[a]? = some u ∧ S.ts[b]? = some v ∧ S.ts[x]? = some (.node l u v) := by
  have hxt : S.ts[x]? = some S.ts[x] := List.getElem?_eq_getElem hx
  cases e : S.ts[x] with
  | leaf b =>
    rw [e] at hxt
    cases b
    · have := (ok.is0 hxt).mpr rfl; omega
    · have := (ok.is1 hxt).mpr rfl; omega
  | node l u v =>
    rw [e] at hxt
    obtain ⟨a, b, h1, h2, h3, h4⟩ := ok.ch _ _ _ _ hxt
    exact ⟨l, a, b, u, v, h1, h2, h3, h4, hxt⟩
theorem small8 {n : Nat} (h : n ≤ 8000010) : n < sizeLine := Nat.lt_of_le_of_lt h (by rw [sizeLine_eq]; decide)
theorem ix_lt {α : Type} {l : List α} {i : Nat} {x : α} (h : l[i]? = some x) : i < l.length := (List.getElem?_eq_some_iff.mp h).1
theorem Gath.skip {S : Sto} {i x : Nat} {fs r : List Nat} (g : Gath S i fs (r ++ [x])) (h : x ≤ 1 ∨ x ∈ fs) : Gath S i fs r := by
  refine ⟨g.nd, g.in_, fun k hk => g.lin k (List.mem_append_left _ hk), ?_, fun k hk c hc => ?_, by have := g.len; simp at this; omega⟩
  · rcases g.top with t | t | t
    · exact .inl t
    · exact .inr (.inl t)
    · rcases List.mem_append.mp t with t | t
      · exact .inr (.inr t)
      · have e : i = x := by simpa using t
        subst e
        exact h.imp id .inl
  · rcases g.kids k hk c hc with t | t | t
    · exact .inl t
    · exact .inr (.inl t)
    · rcases List.mem_append.mp t with t | t
      · exact .inr (.inr t)
      · have e : c = x := by simpa using t
        subst e
        exact h.imp id .inl
theorem Gath.put {S : Sto} {i x a b : Nat} {fs r : List Nat} (g : Gath S i fs (r ++ [x])) (h2 : 2 ≤ x) (hn : x ∉ fs) (ha : S.ls[x]? = some a) (hb : S.hs[x]? = some b) (la : a < S.ts.length) (lb : b < S.ts.length) : Gath S i (fs ++ [x]) (r ++ [a, b]) := by
  have hx := g.lin x (by simp)
  have up : ∀ c, (c ≤ 1 ∨ c ∈ fs ∨ c ∈ r ++ [x]) → c ≤ 1 ∨ c ∈ fs ++ [x] ∨ c ∈ r ++ [a, b] := fun c hc => by
    rcases hc with t | t | t
    · exact .inl t
    · exact .inr (.inl (List.mem_append_left _ t))
    · rcases List.mem_append.mp t with t | t
      · exact .inr (.inr (List.mem_append_left _ t))
      · exact .inr (.inl (List.mem_append_right _ t))
  refine ⟨?_, fun k hk => ?_, fun k hk => ?_, up i g.top, fun k hk c hc => ?_, by have := g.len; simp at this ⊢; omega⟩
  · exact List.nodup_append.mpr ⟨g.nd, by simp, fun y hy z hz => by
      have : z = x := by simpa using hz
      subst this
      exact fun e => hn (e ▸ hy)⟩
  · rcases List.mem_append.mp hk with t | t
    · exact g.in_ k t
    · have e : k = x := by simpa using t
      subst e
      exact ⟨h2, hx⟩
  · rcases List.mem_append.mp hk with t | t
    · exact g.lin k (List.mem_append_left _ t)
    · have e : k = a ∨ k = b := by simpa using t
      rcases e with rfl | rfl
      · exact la
      · exact lb
  · rcases List.mem_append.mp hk with t | t
    · exact up c (g.kids k t c hc)
    · have e : k = x := by simpa using t
      subst e
      rcases hc with hc | hc
      · rw [ha] at hc
        cases hc
        exact .inr (.inr (by simp))
      · rw [hb] at hc
        cases hc
        exact .inr (.inr (by simp))
theorem keeps_put {H0 H : Hp} {a : Addr} (k : Keeps [] H0 H) (h0 : H0 a = none) (o : HO) : Keeps [] H0 (upd H a o) := fun b u e _ => by
  have hb : b ≠ a := fun z => by rw [z, h0] at e; cases e
  rw [upd_ne hb]
  exact k b u e (by simp)
section
variable {P : Program} {w : World} {K : PySem.W.Frag} {mg : Str → Option Value} {base h : Heap} (T : Tp K mg w h)
include T
theorem ok_Trees_below (TB : ∀ q ∈ tf, TabB base mg (He.cT K q).1 (He.cT K q).2) : FnR P w K mg base CX0 1 (TM K "below") (spBelow P w K) := by
  refine fnR0_ofC (d := ("Trees", some "below")) T.F_Trees_below sc_Trees_below (fun _ _ _ _ _ _ us hl => match us, hl with | [_, _], _ => rfl) (fun vs H Q E h => ?_) (fun cdv AA outer s H vs Q E hcdv hr h => ?_)
  · obtain ⟨p, A, L, S, n, i, rfl, _⟩ := h
    rfl
  subst hcdv
  obtain ⟨p, A, L, S, n, i, rfl, st, hT, hi, hn, k⟩ := h
  have hu := hu_of hr
  have hu64 := hr.units
  have hdep := hr.depth
  have hne : (He.cT K ("Trees", some "below")).2 ≠ (He.cT K ("law", none)).2 := T.tabNe
  refine ⟨_, (pss_cons (ps_par (i := 2) (j := 3) (by rfl) sc_Trees_below.nd rfl rfl (by decide) rfl rfl (pa_cons pe_dnewK (pa_cons (pe_lst (pa_cons (pv 1) pa_nil)) pa_nil)) (by rfl))
      (pss_cons (ps_while PassesOwn.never (pt_cmpR (op_neLI hu64) (pv 3) (pe_lst pa_nil) (nomark _)) (pss_cons (ps_set (i := 4) sc_Trees_below.nd rfl (Or.inl rfl) (pe_bm0 PySem.F.plainAttrs_list PySem.F.slot_list_pop PySem.F.type_list_pop mt_pop (pv 3)))
      (pss_one (ps_if (PW.pt (pw_and (pt_cmpR op_gt (pv 4) (pe_gint T.i_ALL) (nomark _)) (pw_and1 (pt_cmp (pc_dnotin hu (pv 4) (pv 2)))))) (pss_cons (ps_dput hu (pv 2) (pv 4) pe_bl rfl)
      (pss_one (ps_expr (pe_bm PySem.F.plainAttrs_list PySem.F.slot_list_extend PySem.F.type_list_extend mt_extend (pv 3) (pa_cons (pe_lst (pa_cons (pe_ix ix_list (pe_fld (pv 0) rfl) (pv 4) (fun _ _ => rfl)) (pa_cons (pe_ix ix_list (pe_fld (pv 0) rfl) (pv 4) (fun _ _ => rfl)) pa_nil))) pa_nil))))) pss_nil))))
      (pss_one (ps_ret (pe_sortedLam (T := TT K) 0 rfl hu64 hdep (pa_cons (pv 2) pa_nil) T.z_sorted (TB ("Trees", some "below") (by simp [tf])) rfl (by unfold TT; exact List.mem_cons_self) (by intro q hq e; simp only [TT, List.mem_cons, List.not_mem_nil, or_false] at hq; rcases hq with rfl | rfl; rfl; exact absurd e.symm hne) rfl (by intro y hy e; have hy : y ∈ [(("own" : Str), NameKind.local), ("self", NameKind.free)] := hy; rcases List.mem_cons.mp hy with rfl | hy; exact absurd e (by decide); rw [List.mem_singleton.mp hy]; exact .inl rfl) rfl rfl rfl (by decide +kernel) rfl rfl rfl rfl (fun _ _ _ _ _ _ => rfl) (fun _ _ _ _ _ => rfl) (fun _ _ => rfl) (by decide +kernel)))))), ?_⟩
  have C := T.cl_Trees
  refine fun df hdf => ⟨_, rfl, (by show 1 ≤ sizeLine; decide), fun al hal => ⟨_, _, rfl, ?_⟩⟩
  have hne' : al ≠ df := fun z => by rw [z, upd_same] at hal; cases hal
  have hal0 : H al = none := by rw [upd_ne hne'] at hal; exact hal
  have small : S.ts.length ≤ 8000002 := by have := st.sz; have e : cap = 8000000 := rfl; omega
  refine ⟨fun m σ H' => ∃ (fs lf : List Nat) (v : Option V), σ = [some (.ref p), some (.int i), some (.ref df), some (.ref al), v] ∧ Gath S i fs lf ∧ Keeps [] H H' ∧ H' df = some (.dK (foundKvs fs)) ∧ H' al = some (.lst (nums lf)) ∧ m = 2 * (S.ts.length - fs.length) + lf.length,
    ⟨_, [], [i], none, rfl, ⟨List.nodup_nil, (by simp), (by simpa using hi), .inr (.inr (by simp)), (by simp), (by simp)⟩, keeps_put (Keeps.new hdf _) hal0 _, by rw [upd_ne (Ne.symm hne'), upd_same]; rfl, upd_same, rfl⟩, ?_⟩
  rintro m σ H1 ⟨fs, lf, v, rfl, g, K1, hd1, ha1, rfl⟩
  refine ⟨_, rfl, (by show 0 ≤ sizeLine; decide), fun q hq => ⟨al, q, lf.map fun (n : Nat) => (n : Int), [], rfl, rfl, SqL.of (by rw [← nums_ints, upd_ne (ne_of_none ha1 hq)]; exact ha1), SqL.of upd_same, _, rfl, ?_⟩⟩
  have K2 : Keeps [] H (upd H1 q (.lst [])) := K1.trans (Keeps.new hq _)
  have hd2 : (upd H1 q (.lst [])) df = some (.dK (foundKvs fs)) := by rw [upd_ne (ne_of_none hd1 hq)]; exact hd1
  have ha2 : (upd H1 q (.lst [])) al = some (.lst (nums lf)) := by rw [upd_ne (ne_of_none ha1 hq)]; exact ha1
  generalize upd H1 q (.lst []) = H2 at K2 hd2 ha2 ⊢
  refine ite2 (fun c => ?_) (fun c => ?_)
  · -- a turn
    have hlf : lf ≠ [] := fun z => by subst z; simp at c
    obtain ⟨x, r, rfl, hlast, hdrop⟩ := last_split hlf
    refine ⟨fun σ' H' => ∃ m', m' < 2 * (S.ts.length - fs.length) + (r ++ [x]).length ∧ ∃ (fs lf : List Nat) (v : Option V), σ' = [some (.ref p), some (.int i), some (.ref df), some (.ref al), v] ∧ Gath S i fs lf ∧ Keeps [] H H' ∧ H' df = some (.dK (foundKvs fs)) ∧ H' al = some (.lst (nums lf)) ∧ m' = 2 * (S.ts.length - fs.length) + lf.length, fun _ _ h => h, ?_⟩
    refine ⟨_, rfl, .inl ⟨rfl, _, SqL.of ha2⟩, al, _, _, rfl, rfl, ha2, hlast, ?_⟩
    rw [hdrop]
    have K3 := keeps_put K2 hal0 (.lst (nums r))
    have hd3 : (upd H2 al (.lst (nums r))) df = some (.dK (foundKvs fs)) := by rw [upd_ne (Ne.symm hne')]; exact hd2
    have ha3 : (upd H2 al (.lst (nums r))) al = some (.lst (nums r)) := upd_same
    generalize upd H2 al (.lst (nums r)) = H3 at K3 hd3 ha3 ⊢
    have st3 := st.keep K3
    have hx := g.lin x (by simp)
    have hlen := nodup_len g.nd fun k hk => (g.in_ k hk).2
    have skip : (x ≤ 1 ∨ x ∈ fs) → ∃ m', m' < 2 * (S.ts.length - fs.length) + (r ++ [x]).length ∧ ∃ (fs' lf : List Nat) (v' : Option V), [some (V.ref p), some (.int i), some (.ref df), some (.ref al), some (.int x)] = [some (.ref p), some (.int i), some (.ref df), some (.ref al), v'] ∧ Gath S i fs' lf ∧ Keeps [] H H3 ∧ H3 df = some (.dK (foundKvs fs')) ∧ H3 al = some (.lst (nums lf)) ∧ m' = 2 * (S.ts.length - fs'.length) + lf.length := fun h =>
      ⟨_, (by rw [List.length_append]; exact Nat.lt_succ_self _), fs, r, _, rfl, g.skip h, K3, hd3, ha3, rfl⟩
    refine ⟨_, rfl, _, _, rfl, rfl, _, rfl, ?_⟩
    refine ite2 (fun c1 => ?_) (fun c1 => ?_)
    · have hx2 : 2 ≤ x := by have := of_decide_eq_true c1; omega
      refine ⟨_, rfl, _, rfl, df, _, rfl, DGet.k (k := Sum.inl (x : Int)) hd3, _, rfl, ?_⟩
      rw [found_val]
      refine ite2 (fun c2 => ?_) (fun c2 => ?_)
      · have hnx : x ∉ fs := fun z => by rw [decide_eq_true z] at c2; cases c2
        obtain ⟨l, a, b, u1, u2, hxa, hxb, hta, htb, hxt⟩ := st.ok.kids hx2 hx
        have hfl : (foundKvs fs).length = fs.length := by unfold foundKvs; rw [List.length_map]
        have hput : putK (foundKvs fs) (Sum.inl (x : Int)) (V.bl true) = foundKvs (fs ++ [x]) := by
          rw [putK_new _ (by have e := found_val (fs := fs) (k := x); rw [decide_eq_false hnx] at e; exact Option.isSome_eq_false_iff.mp e |> fun h => by simpa using h)]
          unfold foundKvs
          rw [List.map_append]
          rfl
        refine ⟨_, rfl, _, rfl, df, _, rfl, DPut.k (k := Sum.inl (x : Int)) hd3 (small8 (by rw [hfl]; omega)), ?_⟩
        rw [hput]
        have K4 := keeps_put K3 hdf (.dK (foundKvs (fs ++ [x])))
        have ha4 : (upd H3 df (.dK (foundKvs (fs ++ [x])))) al = some (.lst (nums r)) := by rw [upd_ne hne']; exact ha3
        have hd4 : (upd H3 df (.dK (foundKvs (fs ++ [x])))) df = some (.dK (foundKvs (fs ++ [x]))) := upd_same
        generalize upd H3 df (.dK (foundKvs (fs ++ [x]))) = H4 at K4 hd4 ha4 ⊢
        have st4 := st.keep K4
        refine ⟨_, rfl, .inl ⟨rfl, _, SqL.of ha4⟩, ?_⟩
        refine ⟨_, rfl, p, _, _, _, _, rfl, st4.ob, C, T.n_Trees_own_low, f_low _ _, _, rfl, A.lo, _, _, _, rfl, rfl, SqL.of st4.lo, atI_nums hxa, ?_⟩
        refine ⟨_, rfl, p, _, _, _, _, rfl, st4.ob, C, T.n_Trees_own_high, f_high _ _, _, rfl, A.hi, _, _, _, rfl, rfl, SqL.of st4.hi, atI_nums hxb, ?_⟩
        refine ⟨(by show 2 ≤ sizeLine; decide), fun q4 hq4 => ?_⟩
        have K5 : Keeps [] H (upd H4 q4 (.lst [.int a, .int b])) := K4.trans (Keeps.new hq4 _)
        have ha5 : (upd H4 q4 (.lst [.int a, .int b])) al = some (.lst (nums r)) := by rw [upd_ne (ne_of_none ha4 hq4)]; exact ha4
        have hd5 : (upd H4 q4 (.lst [.int a, .int b])) df = some (.dK (foundKvs (fs ++ [x]))) := by rw [upd_ne (ne_of_none hd4 hq4)]; exact hd4
        have g' := g.put hx2 hnx hxa hxb (ix_lt hta) (ix_lt htb)
        have hlen' := nodup_len g'.nd fun k hk => (g'.in_ k hk).2
        have hl1 := g'.len
        rw [List.length_append] at hlen'
        rw [List.length_append, List.length_append] at hl1
        have e1 : [x].length = 1 := rfl
        have e2 : [a, b].length = 2 := rfl
        refine ⟨al, q4, _, _, rfl, rfl, ha5, upd_same, Nat.le_of_lt (small8 (by rw [List.length_map]; show r.length + 2 ≤ _; omega)), ?_⟩
        refine ⟨_, ?_, fs ++ [x], r ++ [a, b], _, rfl, g', keeps_put K5 hal0 _, by rw [upd_ne (Ne.symm hne')]; exact hd5, ?_, rfl⟩
        · rw [List.length_append, List.length_append, List.length_append]
          omega
        · rw [upd_same, nums_app]
          rfl
      · exact skip (.inr (by by_cases z : x ∈ fs; exact z; rw [decide_eq_false z] at c2; exact absurd rfl c2))
    · exact skip (.inl (by have := of_decide_eq_false (Bool.eq_false_iff.mpr c1); omega))
  · have hlf : lf = [] := by
      cases lf with
      | nil => rfl
      | cons y ys => simp at c
    subst hlf
    have st2 := st.keep K2
    have hin : ∀ y ∈ fs.map (fun (n : Nat) => (n : Int)), 0 ≤ y ∧ y < 2 ^ 63 ∧ (nums (S.ts.map (BT.lev L)))[y.toNat]? = some (.int ((levOf L S y.toNat : Nat) : Int)) := fun y hy => by
      obtain ⟨x, hx, rfl⟩ := List.mem_map.mp hy
      have hlt := (g.in_ x hx).2
      refine ⟨by omega, by omega, ?_⟩
      rw [Int.toNat_natCast, List.getElem?_map, List.getElem?_map, levOf, List.getElem?_eq_getElem hlt]
      rfl
    refine ⟨_, rfl, tabs_keep hT K2, df, p, _, _, A.lv, _, _, _, _, fun y => ((levOf L S y.toNat : Nat) : Int), rfl, .inl hd2, found_keys fs, rfl, st2.ob, C, T.n_Trees_own_level, f_level _ _, st2.lv, hin, fun ys q3 H3 hperm hord eN hT3 hq3 => ?_⟩
    obtain ⟨ks, rfl, hp⟩ := perm_nums hperm
    rw [← nums_ints]
    refine k ks q3 _ ⟨hp.symm.nodup g.nd, fun z hz => g.in_ z (hp.mem_iff.mp hz), ?_, fun z hz c' hc' => ?_, ?_⟩ ?_ ?_ ?_ upd_same
    · rcases g.top with t | t | t
      · exact .inl t
      · exact .inr (hp.mem_iff.mpr t)
      · cases t
    · rcases g.kids z (hp.mem_iff.mp hz) c' hc' with t | t | t
      · exact .inl t
      · exact .inr (hp.mem_iff.mpr t)
      · cases t
    · rw [List.pairwise_map] at hord
      refine hord.imp fun {a b} h t u ht hu => ?_
      have h : 0 - ((levOf L S (a : Int).toNat : Nat) : Int) ≤ 0 - ((levOf L S (b : Int).toNat : Nat) : Int) := h
      rw [Int.toNat_natCast, Int.toNat_natCast, levOf_eq ht, levOf_eq hu] at h
      omega
    · exact (K2.x.trans (KeepX.ofN eN)).trans (KeepX.new hq3 _)
    · exact tabs_new hT3 hq3 _
    · exact NewX.of (K2.x.trans (KeepX.ofN eN)) hq3
end
end Wv

end
section
set_option maxRecDepth 100000
set_option maxHeartbeats 8000000
/-! The methods of Trees: many_parts, many. Printed from K73T8.tpl by tm.py. -/
namespace Wv
open PySem PySem.Spec PyProof.Rows L2 LamX
/-! ### plain: counts by number -/
theorem Sok.kid_lev {L : Nat} {S : Sto} (ok : Sok L S) {x c : Nat} {t u : BT} (hx : 2 ≤ x) (ht : S.ts[x]? = some t) (hc : S.kid x c) (hu : S.ts[c]? = some u) : BT.lev L t < BT.lev L u := by
  obtain ⟨l, a, b, u1, u2, h1, h2, h3, h4, h5⟩ := ok.kids hx (ix_lt ht)
  rw [ht] at h5
  obtain rfl := Option.some.inj h5
  have g := ok.g ht
  rcases hc with hc | hc
  · rw [h1] at hc
    cases hc
    rw [h3] at hu
    cases hu
    exact g.2.1
  · rw [h2] at hc
    cases hc
    rw [h4] at hu
    cases hu
    exact g.2.2.1
/-- what is below stands ahead -/
theorem Below.prev {L i : Nat} {S : Sto} {ks : List Nat} (ok : Sok L S) (h : Below L S i ks) {n x c : Nat} (hn : ks[n]? = some x) (hc : S.kid x c) : c ≤ 1 ∨ c ∈ ks.take n := by
  rcases h.kids x (List.mem_of_getElem? hn) c hc with e | e
  · exact .inl e
  · right
    obtain ⟨hx2, hxl⟩ := h.in_ x (List.mem_of_getElem? hn)
    obtain ⟨hc2, hcl⟩ := h.in_ c e
    have ht : S.ts[x]? = some S.ts[x] := List.getElem?_eq_getElem hxl
    have hu : S.ts[c]? = some S.ts[c] := List.getElem?_eq_getElem hcl
    have hl := ok.kid_lev hx2 ht hc hu
    obtain ⟨m, hm, em⟩ := List.mem_iff_getElem.mp e
    have hnl := ix_lt hn
    have en : ks[n] = x := Option.some.inj ((List.getElem?_eq_getElem hnl).symm.trans hn)
    rcases Nat.lt_trichotomy m n with q | q | q
    · rw [List.mem_take_iff_getElem]
      exact ⟨m, by omega, em⟩
    · subst q
      rw [em] at en
      subst en
      omega
    · have := List.pairwise_iff_getElem.mp h.ord n m hnl hm q _ _ (by rw [en]; exact ht) (by rw [em]; exact hu)
      omega
/-- the dict of counts: of the numbers done -/
structure Cnts (S : Sto) (R : BT → V → Prop) (kvs : List (Key × V)) (ds : List Nat) : Prop where
  get : ∀ j t, (j ≤ 1 ∨ j ∈ ds) → S.ts[j]? = some t → ∃ v, valV kvs (Sum.inl (j : Int)) = some v ∧ R t v
  len : kvs.length ≤ ds.length + 2
theorem Cnts.put {S : Sto} {R : BT → V → Prop} {kvs : List (Key × V)} {ds : List Nat} (h : Cnts S R kvs ds) {x : Nat} {t : BT} {v : V} (hx : S.ts[x]? = some t) (hv : R t v) : Cnts S R (putK kvs (Sum.inl (x : Int)) v) (ds ++ [x]) := by
  refine ⟨fun j u hj hu => ?_, ?_⟩
  · rw [valV_put]
    by_cases e : j = x
    · subst e
      rw [if_pos rfl]
      rw [hx] at hu
      cases hu
      exact ⟨v, rfl, hv⟩
    · rw [if_neg (fun z => e (by injection z with z; omega))]
      refine h.get j u ?_ hu
      rcases hj with hj | hj
      · exact .inl hj
      · rcases List.mem_append.mp hj with hj | hj
        · exact .inr hj
        · exact absurd (by simpa using hj) e
  · have := length_putK kvs (Sum.inl (x : Int)) v
    rw [List.length_append]
    have e1 : [x].length = 1 := rfl
    have := h.len
    omega
theorem Cnts.start {S : Sto} {L : Nat} {R : BT → V → Prop} (ok : Sok L S) {a b : V} (ha : R (.leaf false) a) (hb : R (.leaf true) b) : Cnts S R (mergeK [] [(Sum.inl 0, a), (Sum.inl 1, b)]) [] := by
  refine ⟨fun j t hj ht => ?_, by have := length_mergeK [((Sum.inl 0 : Key), a), (Sum.inl 1, b)] []; exact this⟩
  have hj : j ≤ 1 := hj.elim id fun z => by cases z
  have e : mergeK [] [((Sum.inl 0 : Key), a), (Sum.inl 1, b)] = putK (putK [] (Sum.inl 0) a) (Sum.inl 1) b := rfl
  rw [e, valV_put, valV_put]
  match j, hj with
  | 0, _ =>
    rw [ok.z] at ht
    cases ht
    rw [if_neg (by decide), if_pos (show (Sum.inl ((0 : Nat) : Int) : Key) = Sum.inl 0 from rfl)]
    exact ⟨a, rfl, ha⟩
  | 1, _ =>
    rw [ok.o] at ht
    cases ht
    rw [if_pos (show (Sum.inl ((1 : Nat) : Int) : Key) = Sum.inl 1 from rfl)]
    exact ⟨b, rfl, hb⟩
theorem Cnts.mono {S : Sto} {R R' : BT → V → Prop} {kvs : List (Key × V)} {ds : List Nat} (h : Cnts S R kvs ds) (k : ∀ t v, R t v → R' t v) : Cnts S R' kvs ds := ⟨fun j t hj ht => let ⟨v, a, b⟩ := h.get j t hj ht; ⟨v, a, k _ _ b⟩, h.len⟩
theorem keepx_put {H0 H : Hp} {a : Addr} (k : KeepX [] H0 H) (h0 : H0 a = none) (o : HO) : KeepX [] H0 (upd H a o) := fun b u e n t => by
  have hb : b ≠ a := fun z => by rw [z, h0] at e; cases e
  rw [upd_ne hb]
  exact k b u e n t
def spMP (P : Program) (w : World) (K : PySem.W.Frag) : Sp := fun vs H Q _ => ∃ (p : Addr) (A : TA) (L : Nat) (S : Sto) (n i : Nat) (t : BT), vs = [.ref p, .int i] ∧ TAt P w (TC K) H p A L S n ∧ Tabs (TT K) H ∧ S.ts[i]? = some t ∧ n ≤ cap ∧
  ∀ (H' : Hp), KeepX [] H H' → Tabs (TT K) H' → Q (.int (BT.np t : Nat)) H'
/-- a count and its level, as a pair -/
def CR (L : Nat) (H : Hp) : BT → V → Prop := fun t v => ∃ b : Addr, v = .ref b ∧ H b = some (.tup [.int (BT.cnt L t : Nat), .int (BT.lev L t : Nat)])
theorem CR.keep {L : Nat} {H H' : Hp} {t : BT} {v : V} (h : CR L H t v) (k : KeepX [] H H') : CR L H' t v := let ⟨b, e, q⟩ := h; ⟨b, e, k.tup q (by simp)⟩
theorem CR.dk {L : Nat} {H : Hp} {t : BT} {v : V} {d : Addr} {xs : List (Key × V)} (h : CR L H t v) (hd : H d = some (.dK xs)) (o : HO) : CR L (upd H d o) t v := let ⟨b, e, q⟩ := h; ⟨b, e, by rw [upd_ne (ne_of q hd (by intro z; cases z))]; exact q⟩
/-- the total behind j halves -/
def tot (L l : Nat) (u v : BT) : Nat → Nat
  | 0 => 0
  | 1 => BT.cnt L u * 2 ^ (BT.lev L u - l - 1)
  | _ => BT.cnt L u * 2 ^ (BT.lev L u - l - 1) + BT.cnt L v * 2 ^ (BT.lev L v - l - 1)
theorem pow_mul {i : Int} {n : Nat} (h : n ≤ 16) : CMul i ((2 ^ n : Nat) : Int) := by
  right
  have h1 : 2 ^ n ≤ 2 ^ 16 := Nat.pow_le_pow_right (by decide) h
  have h2 : (2 : Nat) ^ 16 = 65536 := by decide
  have h3 : (2 : Int) ^ 64 = 18446744073709551616 := by decide
  have h4 : 0 < 2 ^ n := Nat.pow_pos (by decide)
  rw [h3]
  omega
def spMany (P : Program) (w : World) (K : PySem.W.Frag) : Sp := fun vs H Q _ => ∃ (p : Addr) (A : TA) (L : Nat) (S : Sto) (n i : Nat) (t : BT), vs = [.ref p, .int i] ∧ TAt P w (TC K) H p A L S n ∧ Tabs (TT K) H ∧ L ≤ 16 ∧ S.ts[i]? = some t ∧ n ≤ cap ∧
  ∀ (H' : Hp), KeepX [] H H' → Tabs (TT K) H' → Q (.int (BT.many L t : Nat)) H'
section
variable {P : Program} {w : World} {K : PySem.W.Frag} {mg : Str → Option Value} {base h : Heap} (T : Tp K mg w h)
include T
theorem ok_Trees_many_parts (TB : ∀ q ∈ tf, TabB base mg (He.cT K q).1 (He.cT K q).2) : FnR P w K mg base CX0 2 (TM K "many_parts") (spMP P w K) := by
  refine fnR0_of T.F_Trees_many_parts sc_Trees_many_parts (fun _ _ _ _ _ _ us hl => match us, hl with | [_, _], _ => rfl) (fun vs H Q E h => ?_) (fun cdv AA outer s H vs Q E hr h => ?_)
  · obtain ⟨p, A, L, S, n, i, t, rfl, _⟩ := h
    rfl
  obtain ⟨p, A, L, S, n, i, t, rfl, st, hT, hi, hn, k⟩ := h
  have hu := hu_of hr
  refine ⟨_, (pss_cons (ps_set (i := 2) sc_Trees_many_parts.nd rfl (Or.inl rfl) (pe_disp (pps_cons (pe_gint T.i_NOTHING) pe_int (pps_cons (pe_gint T.i_ALL) pe_int pps_nil)) (by rfl) (by rfl) (fun z => by cases z) (by decide)))
      (pss_cons (ps_for PassesOwn.never rfl (pi_list (pe_methR (pv 0) T.cl_Trees T.m_Trees_below (ok_Trees_below T TB) (hr.mono (by decide)) pass0 (pa_cons (pv 1) pa_nil))) (pg_name (i := 3) sc_Trees_many_parts.nd rfl (Or.inl rfl)) (pss_one (ps_dput hu (pv 2) (pv 3) (pe_op op_add (pe_dget hu (pv 2) (pe_ix ix_list (pe_fld (pv 0) rfl) (pv 3) (fun _ _ => rfl)) (fun _ _ => rfl)) (pe_dget hu (pv 2) (pe_ix ix_list (pe_fld (pv 0) rfl) (pv 3) (fun _ _ => rfl)) (fun _ _ => rfl))) rfl)))
      (pss_one (ps_ret (pe_dget hu (pv 2) (pv 1) (fun _ _ => rfl)))))), ?_⟩
  have C := T.cl_Trees
  have hcap : cap = 8000000 := rfl
  have hsz := st.sz
  refine fun d hd => ⟨upd_same, [(Sum.inl 0, .int 0), (Sum.inl 1, .int 1)], rfl, by decide, ?_⟩
  have c0 : Cnts S (fun t v => v = V.int (BT.np t : Nat)) (mergeK [] [((Sum.inl 0 : Key), V.int 0), (Sum.inl 1, V.int 1)]) [] := Cnts.start st.ok rfl rfl
  generalize mergeK [] [((Sum.inl 0 : Key), V.int 0), (Sum.inl 1, V.int 1)] = kvs0 at c0 ⊢
  rw [upd_upd]
  have K0 : Keeps [] H (upd H d (.dK kvs0)) := Keeps.new hd _
  have hd0 : (upd H d (.dK kvs0)) d = some (.dK kvs0) := upd_same
  generalize upd H d (.dK kvs0) = H0 at K0 hd0 ⊢
  have st0 := st.keep K0
  refine ⟨_, rfl, p, _, _, rfl, st0.ob, no_below _ _, _, rfl, p, A, L, S, n, i, rfl, st0, tabs_keep hT K0, ix_lt hi, hn, fun ks a H1 hb K1 hT1 hna ha => ?_⟩
  have hd1 := K1.dk hd0 (by simp)
  have hda : d ≠ a := hna.ne hd0 fun ps z => by cases z
  have K01 := K0.x.trans K1
  have hlen := nodup_len hb.nd fun k hk => (hb.in_ k hk).2
  refine ⟨a, rfl, ⟨_, SqL.of ha⟩, for_list (K := K) (a := a) (xs := nums ks) (fun m σ H' => ∃ (kvs : List (Key × V)) (v : Option V), σ = [some (.ref p), some (.int i), some (.ref d), v] ∧ KeepX [] H H' ∧ Tabs (TT K) H' ∧ H' a = some (.lst (nums ks)) ∧ H' d = some (.dK kvs) ∧ Cnts S (fun t v => v = V.int (BT.np t : Nat)) kvs (ks.take m))
    ⟨kvs0, none, rfl, K01, hT1, ha, hd1, c0⟩ (fun m σ H' _ ⟨_, _, _, _, _, ha', _⟩ => SqL.of ha') ?_ ?_⟩
  · rintro m y σ H2 hy ⟨kvs, v, rfl, K2, hT2, ha2, hd2, c⟩
    obtain ⟨x, hx, rfl⟩ : ∃ x, ks[m]? = some x ∧ y = V.int (x : Int) := by
      rw [List.getElem?_map] at hy
      cases e : ks[m]? with
      | none => rw [e] at hy; cases hy
      | some x => rw [e] at hy; exact ⟨x, rfl, (Option.some.inj hy).symm⟩
    have hm : m < ks.length := ix_lt hx
    have st2 := st.keepX K2
    obtain ⟨hx2, hxl⟩ := hb.in_ x (List.mem_of_getElem? hx)
    obtain ⟨l, f, g, u1, u2, h1, h2, h3, h4, h5⟩ := st.ok.kids hx2 hxl
    obtain ⟨v1, e1, rfl⟩ := c.get f u1 (hb.prev st.ok hx (.inl h1)) h3
    obtain ⟨v2, e2, rfl⟩ := c.get g u2 (hb.prev st.ok hx (.inr h2)) h4
    have c' := c.put h5 (v := V.int ((BT.np u1 : Nat) + (BT.np u2 : Nat))) (congrArg V.int (Int.natCast_add _ _).symm)
    have hkl := c.len
    rw [List.length_take] at hkl
    refine ⟨_, rfl, _, rfl, p, _, _, _, _, rfl, st2.ob, C, T.n_Trees_own_low, f_low _ _, _, rfl, A.lo, _, _, _, rfl, rfl, SqL.of st2.lo, atI_nums h1, d, _, rfl, (by rw [← e1]; exact DGet.k (k := Sum.inl (f : Int)) hd2), ?_⟩
    refine ⟨_, rfl, _, rfl, p, _, _, _, _, rfl, st2.ob, C, T.n_Trees_own_high, f_high _ _, _, rfl, A.hi, _, _, _, rfl, rfl, SqL.of st2.hi, atI_nums h2, d, _, rfl, (by rw [← e2]; exact DGet.k (k := Sum.inl (g : Int)) hd2), _, _, rfl, rfl, ?_⟩
    refine ⟨_, rfl, _, rfl, d, _, rfl, DPut.k (k := Sum.inl (x : Int)) hd2 (small8 (by omega)), ?_⟩
    refine ⟨_, some (.int x), rfl, ?_, tabs_dk hT2 hd2 _, by rw [upd_ne (Ne.symm hda)]; exact ha2, upd_same, by rw [take_more hx]; exact c'⟩
    exact keepx_put K2 hd _
  · rintro σ H2 ⟨kvs, v, rfl, K2, hT2, ha2, hd2, c⟩
    rw [List.length_map, List.take_length] at c
    obtain ⟨v1, e1, rfl⟩ := c.get i t hb.top hi
    exact ⟨_, rfl, _, rfl, d, _, rfl, (by rw [← e1]; exact DGet.k (k := Sum.inl (i : Int)) hd2), k H2 K2 hT2⟩
theorem ok_Trees_many (TB : ∀ q ∈ tf, TabB base mg (He.cT K q).1 (He.cT K q).2) : FnR P w K mg base CX0 2 (TM K "many") (spMany P w K) := by
  refine fnR0_of T.F_Trees_many sc_Trees_many (fun _ _ _ _ _ _ us hl => match us, hl with | [_, _], _ => rfl) (fun vs H Q E h => ?_) (fun cdv AA outer s H vs Q E hr h => ?_)
  · obtain ⟨p, A, L, S, n, i, t, rfl, _⟩ := h
    rfl
  obtain ⟨p, A, L, S, n, i, t, rfl, st, hT, h16, hi, hn, k⟩ := h
  have hu := hu_of hr
  refine ⟨_, (pss_cons (ps_set (i := 2) sc_Trees_many.nd rfl (Or.inl rfl) (pe_disp (pps_cons (pe_gint T.i_NOTHING) (pe_tup (pa_cons pe_int (pa_cons (pe_fld (pv 0) rfl) pa_nil))) (pps_cons (pe_gint T.i_ALL) (pe_tup (pa_cons pe_int (pa_cons (pe_fld (pv 0) rfl) pa_nil))) pps_nil)) (by rfl) (by rfl) (fun z => by cases z) (by decide)))
      (pss_cons (ps_for PassesOwn.never rfl (pi_list (pe_methR (pv 0) T.cl_Trees T.m_Trees_below (ok_Trees_below T TB) (hr.mono (by decide)) pass0 (pa_cons (pv 1) pa_nil))) (pg_name (i := 3) sc_Trees_many.nd rfl (Or.inl rfl)) (pss_cons (ps_set (i := 4) sc_Trees_many.nd rfl (Or.inl rfl) (pe_ix ix_list (pe_fld (pv 0) rfl) (pv 3) (fun _ _ => rfl)))
      (pss_cons (ps_set (i := 5) sc_Trees_many.nd rfl (Or.inl rfl) pe_int)
      (pss_cons (ps_for PassesOwn.never rfl (pi_tup (pe_tup (pa_cons (pe_ix ix_list (pe_fld (pv 0) rfl) (pv 3) (fun _ _ => rfl)) (pa_cons (pe_ix ix_list (pe_fld (pv 0) rfl) (pv 3) (fun _ _ => rfl)) pa_nil)))) (pg_name (i := 6) sc_Trees_many.nd rfl (Or.inl rfl)) (pss_cons (ps_asg (pe_dget hu (pv 2) (pv 6) (fun _ _ => rfl)) (pg_tup (by rfl) (pgs_cons (pg_name (i := 7) sc_Trees_many.nd rfl (Or.inl rfl)) (pgs_cons (pg_name (i := 8) sc_Trees_many.nd rfl (Or.inl rfl)) pgs_nil))))
      (pss_one (ps_set (i := 5) sc_Trees_many.nd rfl (Or.inl rfl) (pe_op op_add (pv 5) (pe_op op_mul (pv 7) (pe_callR (ok_doubled T) (hr.mono (by decide)) T.k_doubled rfl T.m_doubled pass0 (pa_cons (pe_op op_sub (pe_op op_sub (pv 8) (pv 4)) pe_int) pa_nil))))))))
      (pss_one (ps_dput hu (pv 2) (pv 3) (pe_tup (pa_cons (pv 5) (pa_cons (pv 4) pa_nil))) rfl))))))
      (pss_cons (ps_asg (pe_dget hu (pv 2) (pv 1) (fun _ _ => rfl)) (pg_tup (by rfl) (pgs_cons (pg_name (i := 7) sc_Trees_many.nd rfl (Or.inl rfl)) (pgs_cons (pg_name (i := 8) sc_Trees_many.nd rfl (Or.inl rfl)) pgs_nil))))
      (pss_one (ps_ret (pe_op op_mul (pv 7) (pe_callR (ok_doubled T) (hr.mono (by decide)) T.k_doubled rfl T.m_doubled pass0 (pa_cons (pv 8) pa_nil)))))))), ?_⟩
  have C := T.cl_Trees
  have hcap : cap = 8000000 := rfl
  have hsz := st.sz
  refine fun d hd => ?_
  have std := st.new hd (.dK [])
  refine ⟨_, rfl, p, _, _, _, _, rfl, std.ob, C, T.n_Trees_own_levels, f_levels _ _, (by show 2 ≤ sizeLine; decide), fun b0 hb0 => ?_⟩
  have std1 := std.new hb0 (.tup [.int 0, .int (L : Int)])
  refine ⟨_, rfl, p, _, _, _, _, rfl, std1.ob, C, T.n_Trees_own_levels, f_levels _ _, (by show 2 ≤ sizeLine; decide), fun b1 hb1 => ?_⟩
  have hdd : (upd H d (.dK [])) d = some (.dK []) := upd_same
  have hdd1 : (upd (upd H d (.dK [])) b0 (.tup [.int 0, .int (L : Int)])) d = some (.dK []) := by rw [upd_ne (ne_of_none hdd hb0)]; exact hdd
  have hbb0 : (upd (upd H d (.dK [])) b0 (.tup [.int 0, .int (L : Int)])) b0 = some (.tup [.int 0, .int (L : Int)]) := upd_same
  have Ka : Keeps [] H (upd (upd H d (.dK [])) b0 (.tup [.int 0, .int (L : Int)])) := (Keeps.new hd _).trans (Keeps.new hb0 _)
  generalize upd (upd H d (.dK [])) b0 (.tup [.int 0, .int (L : Int)]) = Ha at *
  have Kb : Keeps [] H (upd Ha b1 (.tup [.int 1, .int (L : Int)])) := Ka.trans (Keeps.new hb1 _)
  have hdb : (upd Ha b1 (.tup [.int 1, .int (L : Int)])) d = some (.dK []) := by rw [upd_ne (ne_of_none hdd1 hb1)]; exact hdd1
  have hbb1 : (upd Ha b1 (.tup [.int 1, .int (L : Int)])) b1 = some (.tup [.int 1, .int (L : Int)]) := upd_same
  have hbb2 : (upd Ha b1 (.tup [.int 1, .int (L : Int)])) b0 = some (.tup [.int 0, .int (L : Int)]) := by rw [upd_ne (ne_of_none hbb0 hb1)]; exact hbb0
  generalize upd Ha b1 (.tup [.int 1, .int (L : Int)]) = Hb at *
  refine ⟨hdb, [(Sum.inl 0, .ref b0), (Sum.inl 1, .ref b1)], rfl, (by show 2 ≤ 15; decide), ?_⟩
  have c0 : Cnts S (CR L Hb) (mergeK [] [((Sum.inl 0 : Key), V.ref b0), (Sum.inl 1, V.ref b1)]) [] := Cnts.start st.ok ⟨b0, rfl, hbb2⟩ ⟨b1, rfl, hbb1⟩
  generalize mergeK [] [((Sum.inl 0 : Key), V.ref b0), (Sum.inl 1, V.ref b1)] = kvs0 at c0 ⊢
  have K0 : Keeps [] H (upd Hb d (.dK kvs0)) := keeps_put Kb hd _
  have hd0 : (upd Hb d (.dK kvs0)) d = some (.dK kvs0) := upd_same
  have c0' : Cnts S (CR L (upd Hb d (.dK kvs0))) kvs0 [] := c0.mono fun t v h => h.dk hdb _
  generalize upd Hb d (.dK kvs0) = H0 at K0 hd0 c0' ⊢
  have st0 := st.keep K0
  refine ⟨_, rfl, p, _, _, rfl, st0.ob, no_below _ _, _, rfl, p, A, L, S, n, i, rfl, st0, tabs_keep hT K0, ix_lt hi, hn, fun ks a H1 hb K1 hT1 hna ha => ?_⟩
  have hd1 := K1.dk hd0 (by simp)
  have hda : d ≠ a := hna.ne hd0 fun ps z => by cases z
  have K01 := K0.x.trans K1
  have c1 : Cnts S (CR L H1) kvs0 [] := c0'.mono fun t v h => h.keep K1
  have hlen := nodup_len hb.nd fun k hk => (hb.in_ k hk).2
  refine ⟨a, rfl, ⟨_, SqL.of ha⟩, for_list (K := K) (a := a) (xs := nums ks) (fun m σ H' => ∃ (kvs : List (Key × V)) (v3 v4 v5 v6 v7 v8 : Option V), σ = [some (.ref p), some (.int i), some (.ref d), v3, v4, v5, v6, v7, v8] ∧ KeepX [] H H' ∧ Tabs (TT K) H' ∧ H' a = some (.lst (nums ks)) ∧ H' d = some (.dK kvs) ∧ Cnts S (CR L H') kvs (ks.take m))
    ⟨kvs0, none, none, none, none, none, none, rfl, K01, hT1, ha, hd1, c1⟩ (fun m σ H' _ ⟨_, _, _, _, _, _, _, _, _, _, ha', _⟩ => SqL.of ha') ?_ ?_⟩
  · rintro m y σ H2 hy ⟨kvs, v3, v4, v5, v6, v7, v8, rfl, K2, hT2, ha2, hd2, c⟩
    obtain ⟨x, hx, rfl⟩ : ∃ x, ks[m]? = some x ∧ y = V.int (x : Int) := by
      rw [List.getElem?_map] at hy
      cases e : ks[m]? with
      | none => rw [e] at hy; cases hy
      | some x => rw [e] at hy; exact ⟨x, rfl, (Option.some.inj hy).symm⟩
    have hm : m < ks.length := ix_lt hx
    have st2 := st.keepX K2
    obtain ⟨hx2, hxl⟩ := hb.in_ x (List.mem_of_getElem? hx)
    obtain ⟨l, f, g, u1, u2, h1, h2, h3, h4, h5⟩ := st.ok.kids hx2 hxl
    have gt := st.ok.g h5
    have lv1 : l < BT.lev L u1 := gt.2.1
    have lv2 : l < BT.lev L u2 := gt.2.2.1
    have ll1 := BT.lev_le gt.2.2.2.2.1
    have ll2 := BT.lev_le gt.2.2.2.2.2
    have hkl := c.len
    rw [List.length_take] at hkl
    refine ⟨_, rfl, p, _, _, _, _, rfl, st2.ob, C, T.n_Trees_own_level, f_level _ _, _, rfl, A.lv, _, _, _, rfl, rfl, SqL.of st2.lv, atI_lev h5, ?_⟩
    refine ⟨_, rfl, p, _, _, _, _, rfl, st2.ob, C, T.n_Trees_own_low, f_low _ _, _, rfl, A.lo, _, _, _, rfl, rfl, SqL.of st2.lo, atI_nums h1, ?_⟩
    refine ⟨_, rfl, p, _, _, _, _, rfl, st2.ob, C, T.n_Trees_own_high, f_high _ _, _, rfl, A.hi, _, _, _, rfl, rfl, SqL.of st2.hi, atI_nums h2, (by show 2 ≤ sizeLine; decide), fun q hq => ?_⟩
    have K3 : KeepX [] H (upd H2 q (.tup [.int (f : Int), .int (g : Int)])) := K2.trans (KeepX.new hq _)
    have hT3 := tabs_new hT2 hq (.tup [.int (f : Int), .int (g : Int)])
    have ha3 : (upd H2 q (.tup [.int (f : Int), .int (g : Int)])) a = some (.lst (nums ks)) := by rw [upd_ne (ne_of_none ha2 hq)]; exact ha2
    have hd3 : (upd H2 q (.tup [.int (f : Int), .int (g : Int)])) d = some (.dK kvs) := by rw [upd_ne (ne_of_none hd2 hq)]; exact hd2
    have c3 : Cnts S (CR L (upd H2 q (.tup [.int (f : Int), .int (g : Int)]))) kvs (ks.take m) := c.mono fun t v h => h.keep (KeepX.new hq _)
    have hq3 : (upd H2 q (.tup [.int (f : Int), .int (g : Int)])) q = some (.tup [.int (f : Int), .int (g : Int)]) := upd_same
    generalize upd H2 q (.tup [.int (f : Int), .int (g : Int)]) = H3 at K3 hT3 ha3 hd3 c3 hq3 ⊢
    refine ⟨q, rfl, ⟨_, SqT.of hq3⟩, for_tup (K := K) (a := q) (xs := [V.int (f : Int), .int (g : Int)]) (fun j σ H' => ∃ (v6 v7 v8 : Option V), σ = [some (.ref p), some (.int i), some (.ref d), some (.int x), some (.int l), some (.int (tot L l u1 u2 j : Nat)), v6, v7, v8] ∧ H' = H3)
      ⟨v6, v7, v8, rfl, rfl⟩ (fun j σ H' _ ⟨_, _, _, _, e⟩ => by rw [e]; exact SqT.of hq3) ?_ ?_⟩
    · have turn : ∀ (e : Nat) (u : BT), S.ts[e]? = some u → (e ≤ 1 ∨ e ∈ ks.take m) → ∃ b, valV kvs (Sum.inl (e : Int)) = some (.ref b) ∧ H3 b = some (.tup [.int (BT.cnt L u : Nat), .int (BT.lev L u : Nat)]) := fun e u hu' he => by
        obtain ⟨_, e1, b, rfl, e2⟩ := c3.get e u he hu'
        exact ⟨b, e1, e2⟩
      rintro j y σ H4 hy ⟨w6, w7, w8, rfl, rfl⟩
      have hj : (j = 0 ∧ y = V.int (f : Int)) ∨ (j = 1 ∧ y = V.int (g : Int)) := by
        match j, hy with
        | 0, hy => exact .inl ⟨rfl, (Option.some.inj hy).symm⟩
        | 1, hy => exact .inr ⟨rfl, (Option.some.inj hy).symm⟩
        | j + 2, hy => simp at hy
      obtain ⟨e, u, rfl, he, hk, hl, hll, hstep⟩ : ∃ (e : Nat) (u : BT), y = V.int (e : Int) ∧ S.ts[e]? = some u ∧ (e ≤ 1 ∨ e ∈ ks.take m) ∧ l < BT.lev L u ∧ BT.lev L u ≤ L ∧ tot L l u1 u2 (j + 1) = tot L l u1 u2 j + BT.cnt L u * 2 ^ (BT.lev L u - l - 1) := by
        rcases hj with ⟨rfl, rfl⟩ | ⟨rfl, rfl⟩
        · exact ⟨f, u1, rfl, h3, hb.prev st.ok hx (.inl h1), lv1, ll1, (Nat.zero_add _).symm⟩
        · exact ⟨g, u2, rfl, h4, hb.prev st.ok hx (.inr h2), lv2, ll2, rfl⟩
      obtain ⟨b, e1, e2⟩ := turn e u he hk
      refine ⟨_, rfl, _, rfl, d, _, rfl, (by rw [← e1]; exact DGet.k (k := Sum.inl (e : Int)) hd3), b, _, rfl, SqT.of e2, rfl, _, _, rfl, _, _, rfl, rfl, ?_⟩
      refine ⟨_, rfl, _, rfl, _, rfl, _, rfl, _, _, rfl, rfl, _, _, rfl, rfl, BT.lev L u - l - 1, congrArg (fun z => [V.int z]) (show ((BT.lev L u : Nat) : Int) - (l : Int) - 1 = ((BT.lev L u - l - 1 : Nat) : Int) by omega), by omega, ?_⟩
      refine ⟨_, _, rfl, rfl, pow_mul (by omega), _, _, rfl, rfl, ?_⟩
      refine ⟨some (.int (e : Int)), some (.int (BT.cnt L u : Nat)), some (.int (BT.lev L u : Nat)), ?_, rfl⟩
      rw [hstep, Int.natCast_add, Int.natCast_mul]
      rfl
    · rintro σ H4 ⟨w6, w7, w8, rfl, rfl⟩
      have hn4 : ∀ b' : Addr, True := fun _ => trivial
      refine ⟨_, rfl, _, rfl, (by show 2 ≤ sizeLine; decide), fun b hb4 => ?_⟩
      have K5 : KeepX [] H (upd H4 b (.tup [.int (tot L l u1 u2 2 : Nat), .int (l : Int)])) := K3.trans (KeepX.new hb4 _)
      have hT5 := tabs_new hT3 hb4 (.tup [.int (tot L l u1 u2 2 : Nat), .int (l : Int)])
      have ha5 : (upd H4 b (.tup [.int (tot L l u1 u2 2 : Nat), .int (l : Int)])) a = some (.lst (nums ks)) := by rw [upd_ne (ne_of_none ha3 hb4)]; exact ha3
      have hd5 : (upd H4 b (.tup [.int (tot L l u1 u2 2 : Nat), .int (l : Int)])) d = some (.dK kvs) := by rw [upd_ne (ne_of_none hd3 hb4)]; exact hd3
      have c5 : Cnts S (CR L (upd H4 b (.tup [.int (tot L l u1 u2 2 : Nat), .int (l : Int)]))) kvs (ks.take m) := c3.mono fun t v h => h.keep (KeepX.new hb4 _)
      have hb5 : (upd H4 b (.tup [.int (tot L l u1 u2 2 : Nat), .int (l : Int)])) b = some (.tup [.int (BT.cnt L (.node l u1 u2) : Nat), .int (BT.lev L (.node l u1 u2) : Nat)]) := upd_same
      have c6 := c5.put h5 (v := .ref b) ⟨b, rfl, hb5⟩
      generalize upd H4 b (.tup [.int (tot L l u1 u2 2 : Nat), .int (l : Int)]) = H5 at *
      refine ⟨_, rfl, _, rfl, d, _, rfl, DPut.k (k := Sum.inl (x : Int)) hd5 (small8 (by omega)), ?_⟩
      exact ⟨_, _, _, _, _, _, _, rfl, keepx_put K5 hd _, tabs_dk hT5 hd5 _, by rw [upd_ne (Ne.symm hda)]; exact ha5, upd_same, by rw [take_more hx]; exact c6.mono fun t v h => h.dk hd5 _⟩
  · rintro σ H2 ⟨kvs, v3, v4, v5, v6, v7, v8, rfl, K2, hT2, ha2, hd2, c⟩
    rw [List.length_map, List.take_length] at c
    obtain ⟨_, e1, b, rfl, e2⟩ := c.get i t hb.top hi
    refine ⟨_, rfl, _, rfl, d, _, rfl, (by rw [← e1]; exact DGet.k (k := Sum.inl (i : Int)) hd2), b, _, rfl, SqT.of e2, rfl, _, _, rfl, _, _, rfl, rfl, ?_⟩
    have := BT.lev_le (st.ok.g hi)
    refine ⟨_, rfl, _, rfl, BT.lev L t, rfl, by omega, _, _, rfl, rfl, pow_mul (by omega), ?_⟩
    have := k H2 K2 hT2
    rw [BT.many, Int.natCast_mul] at this
    exact this
end
end Wv

end
section
set_option maxRecDepth 100000
set_option maxHeartbeats 8000000
/-! The methods of Trees: parts. Printed from K73T9.tpl by tm.py. -/
namespace Wv
open PySem PySem.Spec PyProof.Rows L2 LamX
/-! ### plain: the stack -/
def sgV : Option Bool → V
  | none => .non
  | some b => .int (bnum b : Nat)
def sgD : Option Bool → PyData
  | none => .none
  | some b => .int (bnum b : Nat)
structure SI where
  i : Nat
  sg : BT.Pat
  b : Addr
  c : Addr
def Sto.at (S : Sto) (i : Nat) : BT := (S.ts[i]?).getD (.leaf false)
theorem Sto.at_eq {S : Sto} {i : Nat} {t : BT} (h : S.ts[i]? = some t) : S.at i = t := by unfold Sto.at; rw [h]; rfl
def SI.out (L : Nat) (S : Sto) (x : SI) : List BT.Pat := (BT.pats (L - x.sg.length) x.sg.length (S.at x.i)).map (x.sg ++ ·)
def outs (L : Nat) (S : Sto) (st : List SI) : List BT.Pat := st.reverse.flatMap (SI.out L S)
theorem outs_snoc (L : Nat) (S : Sto) (st : List SI) (x : SI) : outs L S (st ++ [x]) = x.out L S ++ outs L S st := by simp [outs]
theorem outs_two (L : Nat) (S : Sto) (st : List SI) (x y : SI) : outs L S (st ++ [x, y]) = y.out L S ++ (x.out L S ++ outs L S st) := by simp [outs]
def wt : Nat → Nat
  | 0 => 1
  | n + 1 => 2 * wt n + 1
theorem wt_pos : ∀ n, 1 ≤ wt n
  | 0 => Nat.le_refl _
  | n + 1 => by show 1 ≤ 2 * wt n + 1; omega
theorem wt_mono : ∀ {m n : Nat}, m ≤ n → wt m ≤ wt n := by
  intro m n h
  induction h with
  | refl => exact Nat.le_refl _
  | step _ ih => show _ ≤ 2 * wt _ + 1; omega
def meas (L : Nat) (st : List SI) : Nat := (st.map fun x => wt (L - x.sg.length)).sum
theorem meas_snoc (L : Nat) (st : List SI) (x : SI) : meas L (st ++ [x]) = meas L st + wt (L - x.sg.length) := by simp [meas]
theorem meas_two (L : Nat) (st : List SI) (x y : SI) : meas L (st ++ [x, y]) = meas L st + (wt (L - x.sg.length) + wt (L - y.sg.length)) := by simp [meas]
theorem meas_len (L : Nat) : ∀ st : List SI, st.length ≤ meas L st
  | [] => Nat.le_refl _
  | x :: st => by
    have := meas_len L st
    have := wt_pos (L - x.sg.length)
    simp only [meas, List.map_cons, List.sum_cons, List.length_cons] at *
    omega
/-- an item of the stack, in the heap -/
structure SIok (L : Nat) (S : Sto) (X : List Addr) (H : Hp) (x : SI) : Prop where
  tb : H x.b = some (.tup [.int x.i, .ref x.c])
  ls : H x.c = some (.lst (x.sg.map sgV))
  nb : x.b ∉ X
  nc : x.c ∉ X
  tr : ∃ u, S.ts[x.i]? = some u ∧ x.sg.length ≤ BT.lev L u
theorem SIok.keep {L : Nat} {S : Sto} {X : List Addr} {H H' : Hp} {x : SI} (h : SIok L S X H x) (k : Keeps X H H') : SIok L S X H' x := ⟨k _ _ h.tb h.nb, k _ _ h.ls h.nc, h.nb, h.nc, h.tr⟩
theorem dp_sg {K : PySem.W.Frag} {H : Hp} : ∀ sg : BT.Pat, DpAll K H (sg.map sgV) (sg.map sgD)
  | [] => .nil
  | none :: sg => .cons .non (dp_sg sg)
  | some b :: sg => .cons (.int _) (dp_sg sg)
theorem lay_sg : ∀ sg : BT.Pat, PyData.canLayAll0 (sg.map sgD) = true
  | [] => rfl
  | none :: sg => by rw [List.map_cons, PyData.canLayAll0, lay_sg sg]; rfl
  | some b :: sg => by rw [List.map_cons, PyData.canLayAll0, lay_sg sg]; rfl
theorem depth_sg : ∀ sg : BT.Pat, PyData.depthAll (sg.map sgD) = 0
  | [] => rfl
  | none :: sg => by rw [List.map_cons, PyData.depthAll, depth_sg sg]; rfl
  | some b :: sg => by rw [List.map_cons, PyData.depthAll, depth_sg sg]; rfl
def SI.dat (x : SI) : PyData := .tuple [.int x.i, .list (x.sg.map sgD)]
theorem dp_st {K : PySem.W.Frag} {H : Hp} {L : Nat} {S : Sto} {X : List Addr} : ∀ st : List SI, (∀ x ∈ st, SIok L S X H x) → DpAll K H (st.map fun x => V.ref x.b) (st.map SI.dat)
  | [], _ => .nil
  | x :: st, h => .cons (.tup (SqT.of (h x List.mem_cons_self).tb) (.cons (.int _) (.cons (.lst (SqL.of (h x List.mem_cons_self).ls) (dp_sg _)) .nil))) (dp_st st fun y hy => h y (List.mem_cons_of_mem _ hy))
theorem shaped_st (st : List SI) : SeqAt.shaped (.list (st.map SI.dat)) = true := by
  have lay : ∀ st : List SI, PyData.canLayAll0 (st.map SI.dat) = true := by
    intro st
    induction st with
    | nil => rfl
    | cons x st ih =>
      rw [List.map_cons, PyData.canLayAll0, ih, SI.dat, PyData.canLay0, PyData.canLayAll0, PyData.canLayAll0, PyData.canLay0, PyData.canLay0, lay_sg]
      rfl
  have dep : ∀ st : List SI, PyData.depthAll (st.map SI.dat) ≤ 2 := by
    intro st
    induction st with
    | nil => exact Nat.zero_le _
    | cons x st ih =>
      rw [List.map_cons, PyData.depthAll, SI.dat, PyData.depth, PyData.depthAll, PyData.depthAll, PyData.depth, PyData.depth, depth_sg, PyData.depthAll]
      omega
  unfold SeqAt.shaped
  rw [PyData.canLay0, lay, PyData.depth]
  have := dep st
  simp
  omega
theorem eqv_st (st : List SI) : PyData.eqv (.list (st.map SI.dat)) (.list []) = decide (st = []) := by
  cases st with
  | nil => rw [List.map_nil, PyData.eqv, PyData.eqvAll]; rfl
  | cons x st => rw [List.map_cons, PyData.eqv, PyData.eqvAll]; simp
/-- a new item: its list of signs, its pair -/
theorem SIok.new {L : Nat} {S : Sto} {H : Hp} {fl al c b j : Addr} {sg : BT.Pat} {us vs : List V} {u : BT} (hf : H fl = some (.lst us)) (ha : H al = some (.lst vs)) (hc : H c = none) (hb : (upd H c (.lst (sg.map sgV))) b = none) (hj : S.ts[j]? = some u) (hl : sg.length ≤ BT.lev L u) :
    SIok L S [fl, al] (upd (upd H c (.lst (sg.map sgV))) b (.tup [.int j, .ref c])) ⟨j, sg, b, c⟩ := by
  have h1 : fl ≠ c := ne_of_none hf hc
  have h2 : al ≠ c := ne_of_none ha hc
  have h3 : fl ≠ b := ne_of_none (by rw [upd_ne h1]; exact hf) hb
  have h4 : al ≠ b := ne_of_none (by rw [upd_ne h2]; exact ha) hb
  have h5 : c ≠ b := ne_of_none (upd_same : upd H c _ c = _) hb
  refine ⟨upd_same, ?_, by simp [Ne.symm h3, Ne.symm h4], by simp [Ne.symm h1, Ne.symm h2], u, hj, hl⟩
  show upd _ b _ c = _
  rw [upd_ne h5, upd_same]
theorem two_new {H : Hp} {fl : Addr} {o x y : HO} {c b : Addr} (hf : H fl = some o) (hc : H c = none) (hb : (upd H c x) b = none) : (upd (upd H c x) b y) fl = some o := by
  have h1 : fl ≠ c := ne_of_none hf hc
  have h2 : fl ≠ b := ne_of_none (by rw [upd_ne h1]; exact hf) hb
  rw [upd_ne h2, upd_ne h1]
  exact hf
theorem sg_snoc (sg : BT.Pat) (o : Option Bool) : sg.map sgV ++ [sgV o] = (sg ++ [o]).map sgV := by simp
theorem small1000' {n : Nat} (h : n ≤ 1000) : n ≤ sizeLine := Nat.le_of_lt (small8 (by omega))
theorem pickF {A B : Hp → Prop} {H : Hp} (h : B H) : (fun (b : Bool) (H1 : Hp) => if b = true then A H1 else B H1) false H := h
theorem pickT {A B : Hp → Prop} {H : Hp} (h : A H) : (fun (b : Bool) (H1 : Hp) => if b = true then A H1 else B H1) true H := h
/-! ### parts -/
structure Parts (L : Nat) (t : BT) (H : Hp) (rs : List V) : Prop where
  len : rs.length = (BT.pats L 0 t).length
  at_ : ∀ (j : Nat) (q : BT.Pat), (BT.pats L 0 t)[j]? = some q → ∃ c : Addr, rs[j]? = some (.ref c) ∧ H c = some (.lst (q.map sgV))
def spParts (P : Program) (w : World) (C : Addr) : Sp := fun vs H Q _ => ∃ (p : Addr) (A : TA) (L : Nat) (S : Sto) (n i : Nat) (t : BT), vs = [.ref p, .int i] ∧ TAt P w C H p A L S n ∧ L ≤ 16 ∧ S.ts[i]? = some t ∧
  ∀ (a : Addr) (rs : List V) (H' : Hp), Keeps [] H H' → H a = none → H' a = some (.lst rs) → Parts L t H' rs → Q (.ref a) H'
section
variable {P : Program} {w : World} {K : PySem.W.Frag} {mg : Str → Option Value} {base h : Heap} (T : Tp K mg w h)
include T
theorem ok_Trees_parts : FnR P w K mg base CX0 2 (TM K "parts") (spParts P w (TC K)) := by
  refine fnR0_of T.F_Trees_parts sc_Trees_parts (fun _ _ _ _ _ _ us hl => match us, hl with | [_, _], _ => rfl) (fun vs H Q E h => ?_) (fun cdv AA outer s H vs Q E hr h => ?_)
  · obtain ⟨p, A, L, S, n, i, t, rfl, _⟩ := h
    rfl
  obtain ⟨p, A, L, S, n, i, t, rfl, st, h16, hi, k⟩ := h
  have hu64 := hr.units
  refine ⟨_, (pss_cons (ps_par (i := 2) (j := 3) (by rfl) sc_Trees_parts.nd rfl rfl (by decide) rfl rfl (pa_cons (pe_lst pa_nil) (pa_cons (pe_lst (pa_cons (pe_tup (pa_cons (pv 1) (pa_cons (pe_lst pa_nil) pa_nil))) pa_nil)) pa_nil)) (by rfl))
      (pss_cons (ps_while PassesOwn.never (pt_cmpR (op_neD hu64) (pv 3) (pe_lst pa_nil) (nomark _)) (pss_cons (ps_asg (pe_bm0 PySem.F.plainAttrs_list PySem.F.slot_list_pop PySem.F.type_list_pop mt_pop (pv 3)) (pg_tup (by rfl) (pgs_cons (pg_name (i := 4) sc_Trees_parts.nd rfl (Or.inl rfl)) (pgs_cons (pg_name (i := 5) sc_Trees_parts.nd rfl (Or.inl rfl)) pgs_nil))))
      (pss_one (ps_if (PW.pt (pw_and (pt_cmpR op_ne (pv 4) (pe_gint T.i_NOTHING) (nomark _)) (pw_and1 (pt_cmpR op_eq (pe_callB call_len_seq (by rfl) T.z_len PySem.boot_len (pa_cons (pv 5) pa_nil)) (pe_fld (pv 0) rfl) (nomark _))))) (pss_one (ps_expr (pe_bm PySem.F.plainAttrs_list PySem.F.slot_list_append PySem.F.type_list_append mt_append (pv 2) (pa_cons (pv 5) pa_nil)))) (pss_one (ps_if (pt_cmpR op_ne (pv 4) (pe_gint T.i_NOTHING) (nomark _)) (pss_cons (ps_asg (pe_methR (pv 0) T.cl_Trees T.m_Trees_halves (ok_Trees_halves T) (hr.mono (by decide)) pass0 (pa_cons (pv 4) (pa_cons (pe_callB call_len_seq (by rfl) T.z_len PySem.boot_len (pa_cons (pv 5) pa_nil)) pa_nil))) (pg_tup (by rfl) (pgs_cons (pg_name (i := 6) sc_Trees_parts.nd rfl (Or.inl rfl)) (pgs_cons (pg_name (i := 7) sc_Trees_parts.nd rfl (Or.inl rfl)) pgs_nil))))
      (pss_one (ps_if (pt_cmpR op_eq (pv 6) (pv 7) (nomark _)) (pss_one (ps_expr (pe_bm PySem.F.plainAttrs_list PySem.F.slot_list_append PySem.F.type_list_append mt_append (pv 3) (pa_cons (pe_tup (pa_cons (pv 6) (pa_cons (pe_lst (StX.pa_star (pv 5) (pa_cons pe_non pa_nil))) pa_nil))) pa_nil)))) (pss_one (ps_expr (pe_bm PySem.F.plainAttrs_list PySem.F.slot_list_extend PySem.F.type_list_extend mt_extend (pv 3) (pa_cons (pe_lst (pa_cons (pe_tup (pa_cons (pv 7) (pa_cons (pe_lst (StX.pa_star (pv 5) (pa_cons pe_int pa_nil))) pa_nil))) (pa_cons (pe_tup (pa_cons (pv 6) (pa_cons (pe_lst (StX.pa_star (pv 5) (pa_cons pe_int pa_nil))) pa_nil))) pa_nil))) pa_nil))))))) pss_nil))))))
      (pss_one (ps_ret (pv 2))))), ?_⟩
  have C := T.cl_Trees
  refine ⟨(by show 0 ≤ sizeLine; decide), fun fl hfl => ⟨_, rfl, (by show 0 ≤ sizeLine; decide), fun c0 hc0 => ⟨(by show 2 ≤ sizeLine; decide), fun b0 hb0 => ⟨(by show 1 ≤ sizeLine; decide), fun al hal => ⟨_, _, rfl, ?_⟩⟩⟩⟩⟩
  have f1 : (upd H fl (.lst [])) fl = some (.lst []) := upd_same
  have f2 := f1
  have hc0f : fl ≠ c0 := ne_of_none f1 hc0
  have f3 : (upd (upd H fl (.lst [])) c0 (.lst [])) fl = some (.lst []) := by rw [upd_ne hc0f]; exact f1
  have g3 : (upd (upd H fl (.lst [])) c0 (.lst [])) c0 = some (.lst []) := upd_same
  have K3 : Keeps [] H (upd (upd H fl (.lst [])) c0 (.lst [])) := (Keeps.new hfl _).trans (Keeps.new hc0 _)
  generalize upd (upd H fl (.lst [])) c0 (.lst []) = H3 at *
  have f4 : (upd H3 b0 (.tup [.int i, .ref c0])) fl = some (.lst []) := by rw [upd_ne (ne_of_none f3 hb0)]; exact f3
  have g4 : (upd H3 b0 (.tup [.int i, .ref c0])) c0 = some (.lst []) := by rw [upd_ne (ne_of_none g3 hb0)]; exact g3
  have b4 : (upd H3 b0 (.tup [.int i, .ref c0])) b0 = some (.tup [.int i, .ref c0]) := upd_same
  have K4 : Keeps [] H (upd H3 b0 (.tup [.int i, .ref c0])) := K3.trans (Keeps.new hb0 _)
  generalize upd H3 b0 (.tup [.int i, .ref c0]) = H4 at *
  have f5 : (upd H4 al (.lst [.ref b0])) fl = some (.lst []) := by rw [upd_ne (ne_of_none f4 hal)]; exact f4
  have g5 : (upd H4 al (.lst [.ref b0])) c0 = some (.lst []) := by rw [upd_ne (ne_of_none g4 hal)]; exact g4
  have b5 : (upd H4 al (.lst [.ref b0])) b0 = some (.tup [.int i, .ref c0]) := by rw [upd_ne (ne_of_none b4 hal)]; exact b4
  have a5 : (upd H4 al (.lst [.ref b0])) al = some (.lst [.ref b0]) := upd_same
  have K5 : Keeps [] H (upd H4 al (.lst [.ref b0])) := K4.trans (Keeps.new hal _)
  have hfa : fl ≠ al := ne_of_none f4 hal
  have hca : c0 ≠ al := ne_of_none g4 hal
  have hba : b0 ≠ al := ne_of_none b4 hal
  have hbf : b0 ≠ fl := ne_of b4 f4 (by intro z; cases z)
  have hal0 : H al = none := by
    cases e : H al with
    | none => rfl
    | some o => rw [K4 al o e (by simp)] at hal; cases hal
  generalize upd H4 al (.lst [.ref b0]) = H5 at *
  have gt := st.ok.g hi
  have hw16 : wt L ≤ 131071 := Nat.le_trans (wt_mono h16) (by decide)
  refine ⟨fun m σ H' => ∃ (fd : List (BT.Pat × Addr)) (stk : List SI) (v4 v5 v6 v7 : Option V), σ = [some (.ref p), some (.int i), some (.ref fl), some (.ref al), v4, v5, v6, v7] ∧ Keeps [] H H' ∧ H' fl = some (.lst (fd.map fun x => V.ref x.2)) ∧ H' al = some (.lst (stk.map fun x => V.ref x.b)) ∧
    (∀ x ∈ stk, SIok L S [fl, al] H' x) ∧ (∀ x ∈ fd, H' x.2 = some (.lst (x.1.map sgV)) ∧ x.2 ∉ [fl, al]) ∧ fd.map (·.1) ++ outs L S stk = BT.pats L 0 t ∧ m = meas L stk ∧ fd.length + m ≤ wt L,
    ⟨_, [], [⟨i, [], b0, c0⟩], none, none, none, none, rfl, K5, f5, a5, ?_, (by simp), ?_, rfl, ?_⟩, ?_⟩
  · intro x hx
    rw [List.mem_singleton.mp hx]
    exact ⟨b5, g5, by simp [hbf, hba], by simp [Ne.symm hc0f, hca], t, hi, Nat.zero_le _⟩
  · simp [outs, SI.out, Sto.at_eq hi]
  · simp [meas]
  rintro m σ H1 ⟨fd, stk, v4, v5, v6, v7, rfl, K1, hf1, ha1, hs1, hd1, hout, rfl, hms⟩
  refine ⟨_, rfl, (by show 0 ≤ sizeLine; decide), fun q hq => ⟨.list (stk.map SI.dat), .list [], .lst (SqL.of (by rw [upd_ne (ne_of_none ha1 hq)]; exact ha1)) (dp_st stk fun x hx => (hs1 x hx).keep (Keeps.new hq _)), .lst (SqL.of upd_same) .nil, shaped_st stk, rfl, _, rfl, ?_⟩⟩
  have K2 : Keeps [] H (upd H1 q (.lst [])) := K1.trans (Keeps.new hq _)
  have hf2 : (upd H1 q (.lst [])) fl = some (.lst (fd.map fun x => V.ref x.2)) := by rw [upd_ne (ne_of_none hf1 hq)]; exact hf1
  have ha2 : (upd H1 q (.lst [])) al = some (.lst (stk.map fun x => V.ref x.b)) := by rw [upd_ne (ne_of_none ha1 hq)]; exact ha1
  have hs2 : ∀ x ∈ stk, SIok L S [fl, al] (upd H1 q (.lst [])) x := fun x hx => (hs1 x hx).keep (Keeps.new hq _)
  have hd2 : ∀ x ∈ fd, (upd H1 q (.lst [])) x.2 = some (.lst (x.1.map sgV)) ∧ x.2 ∉ [fl, al] := fun x hx => ⟨by rw [upd_ne (ne_of_none (hd1 x hx).1 hq)]; exact (hd1 x hx).1, (hd1 x hx).2⟩
  generalize upd H1 q (.lst []) = H2 at K2 hf2 ha2 hs2 hd2 ⊢
  rw [eqv_st]
  refine ite2 (fun c => ?_) (fun c => ?_)
  · have hne : stk ≠ [] := fun z => by rw [z] at c; simp at c
    obtain ⟨r, x, rfl⟩ : ∃ r x, stk = r ++ [x] := ⟨stk.dropLast, stk.getLast hne, (List.dropLast_concat_getLast hne).symm⟩
    have hx := hs2 x (by simp)
    obtain ⟨u, hu, hlv⟩ := hx.tr
    refine ⟨fun σ' H' => ∃ m', m' < meas L (r ++ [x]) ∧ ∃ (fd : List (BT.Pat × Addr)) (stk : List SI) (v4 v5 v6 v7 : Option V), σ' = [some (.ref p), some (.int i), some (.ref fl), some (.ref al), v4, v5, v6, v7] ∧ Keeps [] H H' ∧ H' fl = some (.lst (fd.map fun x => V.ref x.2)) ∧ H' al = some (.lst (stk.map fun x => V.ref x.b)) ∧
      (∀ x ∈ stk, SIok L S [fl, al] H' x) ∧ (∀ x ∈ fd, H' x.2 = some (.lst (x.1.map sgV)) ∧ x.2 ∉ [fl, al]) ∧ fd.map (·.1) ++ outs L S stk = BT.pats L 0 t ∧ m' = meas L stk ∧ fd.length + m' ≤ wt L, fun _ _ h => h, ?_⟩
    refine ⟨_, rfl, .inl ⟨rfl, _, SqL.of ha2⟩, al, _, .ref x.b, rfl, rfl, ha2, by simp, ?_⟩
    rw [show ((r ++ [x]).map fun x => V.ref x.b).dropLast = r.map fun x => V.ref x.b by simp]
    have kal : Keeps [fl, al] H2 (upd H2 al (.lst (r.map fun x => V.ref x.b))) := Keeps.upd_mem (by simp) _
    have K6 := keeps_put K2 hal0 (.lst (r.map fun x => V.ref x.b))
    have hf6 : (upd H2 al (.lst (r.map fun x => V.ref x.b))) fl = some (.lst (fd.map fun x => V.ref x.2)) := by rw [upd_ne hfa]; exact hf2
    have ha6 : (upd H2 al (.lst (r.map fun x => V.ref x.b))) al = some (.lst (r.map fun x => V.ref x.b)) := upd_same
    have hx6 := hx.keep kal
    have hs6 : ∀ y ∈ r, SIok L S [fl, al] (upd H2 al (.lst (r.map fun x => V.ref x.b))) y := fun y hy => (hs2 y (by simp [hy])).keep kal
    have hd6 : ∀ y ∈ fd, (upd H2 al (.lst (r.map fun x => V.ref x.b))) y.2 = some (.lst (y.1.map sgV)) ∧ y.2 ∉ [fl, al] := fun y hy => ⟨kal _ _ (hd2 y hy).1 (hd2 y hy).2, (hd2 y hy).2⟩
    generalize upd H2 al (.lst (r.map fun x => V.ref x.b)) = H6 at K6 hf6 ha6 hx6 hs6 hd6 ⊢
    refine ⟨x.b, _, rfl, SqT.of hx6.tb, rfl, _, _, rfl, _, _, rfl, rfl, ?_⟩
    have st6 := st.keep K6
    rw [outs_snoc, SI.out, Sto.at_eq hu] at hout
    rw [meas_snoc] at hms
    have gu := st.ok.g hu
    have hlen := BT.lev_le gu
    have hw := wt_pos (L - x.sg.length)
    have hstl := meas_len L r
    by_cases hz : x.i = 0
    · -- nothing
      have hu0 : u = .leaf false := (st.ok.is0 hu).mp hz
      refine ⟨_, rfl, rfl, _, rfl, ?_⟩
      refine iteF' (by rw [hz]; simp) ?_
      refine pickF ?_
      refine ⟨_, rfl, rfl, _, rfl, ?_⟩
      refine iteF' (by rw [hz]; simp) ?_
      refine ⟨meas L r, by rw [meas_snoc]; omega, fd, r, _, _, _, _, rfl, K6, hf6, ha6, hs6, hd6, ?_, rfl, by omega⟩
      rw [hu0, BT.pats_nil] at hout
      exact hout
    have hzi : ¬ (V.int (x.i : Int) = V.int 0) := fun z => hz (by injection z with z; omega)
    refine ⟨_, rfl, rfl, _, rfl, ?_⟩
    refine iteT' (by simp [hzi]) ?_
    refine ⟨_, rfl, x.c, _, rfl, .inl (SqL.of hx6.ls), _, rfl, p, _, _, _, _, rfl, st6.ob, C, T.n_Trees_own_levels, f_levels _ _, rfl, _, rfl, ?_⟩
    rw [List.length_map]
    have hune : u ≠ .leaf false := fun e => hz ((st.ok.is0 hu).mpr e)
    by_cases hl : x.sg.length = L
    · refine iteT' (by rw [hl]; simp) ?_
      refine ⟨_, rfl, .inl ⟨rfl, _, SqL.of hf6⟩, _, rfl, fl, _, _, rfl, rfl, hf6, small8 (by rw [List.length_map]; omega), ?_⟩
      have hout' : (fd ++ [(x.sg, x.c)]).map (·.1) ++ outs L S r = BT.pats L 0 t := by
        rw [hl, Nat.sub_self] at hout
        have e : BT.pats 0 L u = [[]] := by rw [BT.pats, if_neg hune]
        rw [e] at hout
        rw [← hout]
        simp
      have kfl : Keeps [fl, al] H6 (upd H6 fl (.lst ((fd.map fun x => V.ref x.2) ++ [V.ref x.c]))) := Keeps.upd_mem (by simp) _
      refine ⟨meas L r, by rw [meas_snoc]; omega, fd ++ [(x.sg, x.c)], r, _, _, _, _, rfl, keeps_put K6 hfl _, ?_, ?_, fun y hy => (hs6 y hy).keep kfl, fun y hy => ?_, hout', rfl, by rw [List.length_append]; show fd.length + 1 + _ ≤ _; omega⟩
      · rw [upd_same]; simp
      · rw [upd_ne (Ne.symm hfa)]; exact ha6
      · rcases List.mem_append.mp hy with hy | hy
        · exact ⟨kfl _ _ (hd6 y hy).1 (hd6 y hy).2, (hd6 y hy).2⟩
        · rw [List.mem_singleton.mp hy]
          exact ⟨kfl _ _ hx6.ls hx6.nc, hx6.nc⟩
    have hlt : x.sg.length < L := by omega
    refine iteF' (by simp; omega) ?_
    refine ⟨_, rfl, rfl, _, rfl, ?_⟩
    refine iteT' (by simp [hzi]) ?_
    refine ⟨_, rfl, p, _, _, rfl, st6.ob, no_halves _ _, _, rfl, _, rfl, x.c, _, rfl, .inl (SqL.of hx6.ls), ?_⟩
    rw [List.length_map]
    refine ⟨p, A, L, S, n, x.sg.length, x.i, u, rfl, st6, hu, hlt, fun j1 j2 q1 hj1 hj2 hq1 => ?_⟩
    refine ⟨q1, _, rfl, SqT.of upd_same, rfl, _, _, rfl, _, _, rfl, rfl, ?_⟩
    have K7 : Keeps [fl, al] H6 (upd H6 q1 (.tup [.int j1, .int j2])) := Keeps.new hq1 _
    have K7' := K6.trans (Keeps.new hq1 (.tup [.int j1, .int j2]))
    have hf7 : (upd H6 q1 (.tup [.int j1, .int j2])) fl = some (.lst (fd.map fun x => V.ref x.2)) := by rw [upd_ne (ne_of_none hf6 hq1)]; exact hf6
    have ha7 : (upd H6 q1 (.tup [.int j1, .int j2])) al = some (.lst (r.map fun x => V.ref x.b)) := by rw [upd_ne (ne_of_none ha6 hq1)]; exact ha6
    have hx7 := hx6.keep K7
    have hs7 : ∀ y ∈ r, SIok L S [fl, al] (upd H6 q1 (.tup [.int j1, .int j2])) y := fun y hy => (hs6 y hy).keep K7
    have hd7 : ∀ y ∈ fd, (upd H6 q1 (.tup [.int j1, .int j2])) y.2 = some (.lst (y.1.map sgV)) ∧ y.2 ∉ [fl, al] := fun y hy => ⟨K7 _ _ (hd6 y hy).1 (hd6 y hy).2, (hd6 y hy).2⟩
    generalize upd H6 q1 (.tup [.int j1, .int j2]) = H7 at K7 K7' hf7 ha7 hx7 hs7 hd7 ⊢
    have hlv' := BT.half_lev gu hlt hlv
    obtain ⟨d, hd⟩ : ∃ d, L - x.sg.length = d + 1 := ⟨L - x.sg.length - 1, by omega⟩
    have hd' : L - (x.sg.length + 1) = d := by omega
    have hsl : (x.sg.map sgV).length ≤ 1000 := by rw [List.length_map]; omega
    rw [hd, BT.pats, if_neg hune] at hout
    refine ⟨_, rfl, _, rfl, rfl, _, rfl, ?_⟩
    by_cases he : BT.half x.sg.length false u = BT.half x.sg.length true u
    · have hj : j1 = j2 := (st.ok.eq hj1 hj2).mpr he
      rw [if_pos he] at hout
      refine iteT' (by rw [hj]; simp) ?_
      refine ⟨_, rfl, .inl ⟨rfl, _, SqL.of ha7⟩, _, rfl, _, rfl, x.c, _, rfl, .inr (SqL.of hx7.ls), ?_⟩
      have e1 : x.sg.map sgV ++ [V.non] = (x.sg ++ [none]).map sgV := sg_snoc x.sg none
      refine ⟨small1000' (by rw [List.length_append, List.length_map]; show x.sg.length + 1 ≤ _; omega), fun c hc => ⟨(by show 2 ≤ sizeLine; decide), fun b hb => ?_⟩⟩
      rw [e1] at hb ⊢
      have hlen1 : (x.sg ++ [none]).length = x.sg.length + 1 := by simp
      have hnew := SIok.new (L := L) hf7 ha7 hc hb hj1 (by rw [hlen1]; exact hlv' false)
      have hf8 := two_new (y := .tup [.int j1, .ref c]) hf7 hc hb
      have ha8 := two_new (y := .tup [.int j1, .ref c]) ha7 hc hb
      have K8 : Keeps [fl, al] H7 (upd (upd H7 c (.lst ((x.sg ++ [none]).map sgV))) b (.tup [.int j1, .ref c])) := (Keeps.new hc _).trans (Keeps.new hb _)
      have K8' := K7'.trans ((Keeps.new hc (.lst ((x.sg ++ [none]).map sgV))).trans (Keeps.new hb (.tup [.int j1, .ref c])))
      generalize upd (upd H7 c (.lst ((x.sg ++ [none]).map sgV))) b (.tup [.int j1, .ref c]) = H8 at K8 K8' hf8 ha8 hnew ⊢
      refine ⟨al, _, _, rfl, rfl, ha8, small8 (by rw [List.length_map]; omega), ?_⟩
      have kal8 : Keeps [fl, al] H8 (upd H8 al (.lst ((r.map fun x => V.ref x.b) ++ [V.ref b]))) := Keeps.upd_mem (by simp) _
      have hwt : wt (L - x.sg.length) = 2 * wt d + 1 := by rw [hd]; rfl
      have hwp := wt_pos d
      refine ⟨meas L (r ++ [⟨j1, x.sg ++ [none], b, c⟩]), ?_, fd, r ++ [⟨j1, x.sg ++ [none], b, c⟩], _, _, _, _, rfl, keeps_put K8' hal0 _, ?_, ?_, fun y hy => ?_, fun y hy => ?_, ?_, rfl, ?_⟩
      · rw [meas_snoc, meas_snoc]
        show _ + wt (L - (x.sg ++ [none]).length) < _
        rw [hlen1, hd']
        omega
      · rw [upd_ne hfa]; exact hf8
      · rw [upd_same]; simp
      · rcases List.mem_append.mp hy with hy | hy
        · exact ((hs7 y hy).keep K8).keep kal8
        · rw [List.mem_singleton.mp hy]
          exact hnew.keep kal8
      · exact ⟨kal8 _ _ (K8 _ _ (hd7 y hy).1 (hd7 y hy).2) (hd7 y hy).2, (hd7 y hy).2⟩
      · rw [outs_snoc, SI.out, Sto.at_eq hj1]
        show _ ++ ((BT.pats (L - (x.sg ++ [none]).length) (x.sg ++ [none]).length _).map ((x.sg ++ [none]) ++ ·) ++ _) = _
        rw [hlen1, hd', ← hout, List.map_map]
        simp only [Function.comp_def, List.append_assoc, List.singleton_append]
      · rw [meas_snoc]
        show _ + (_ + wt (L - (x.sg ++ [none]).length)) ≤ _
        rw [hlen1, hd']
        omega
    · have hj : j1 ≠ j2 := fun z => he ((st.ok.eq hj1 hj2).mp z)
      rw [if_neg he] at hout
      refine iteF' (by
        have : ¬ (V.int (j1 : Int) = V.int j2) := fun z => hj (by injection z with z; omega)
        simp [this]) ?_
      refine ⟨_, rfl, .inl ⟨rfl, _, SqL.of ha7⟩, _, rfl, _, rfl, x.c, _, rfl, .inr (SqL.of hx7.ls), ?_⟩
      have e1 : x.sg.map sgV ++ [V.int 1] = (x.sg ++ [some true]).map sgV := sg_snoc x.sg (some true)
      refine ⟨small1000' (by rw [List.length_append, List.length_map]; show x.sg.length + 1 ≤ _; omega), fun c hc => ⟨(by show 2 ≤ sizeLine; decide), fun b hb => ?_⟩⟩
      rw [e1] at hb ⊢
      have hlen1 : (x.sg ++ [some true]).length = x.sg.length + 1 := by simp
      have hlen2 : (x.sg ++ [some false]).length = x.sg.length + 1 := by simp
      have hnew := SIok.new (L := L) hf7 ha7 hc hb hj2 (by rw [hlen1]; exact hlv' true)
      have hf8 := two_new (y := .tup [.int j2, .ref c]) hf7 hc hb
      have ha8 := two_new (y := .tup [.int j2, .ref c]) ha7 hc hb
      have K8 : Keeps [fl, al] H7 (upd (upd H7 c (.lst ((x.sg ++ [some true]).map sgV))) b (.tup [.int j2, .ref c])) := (Keeps.new hc _).trans (Keeps.new hb _)
      have K8' := K7'.trans ((Keeps.new hc (.lst ((x.sg ++ [some true]).map sgV))).trans (Keeps.new hb (.tup [.int j2, .ref c])))
      have hx8 := hx7.keep K8
      generalize upd (upd H7 c (.lst ((x.sg ++ [some true]).map sgV))) b (.tup [.int j2, .ref c]) = H8 at K8 K8' hf8 ha8 hnew hx8 ⊢
      refine ⟨_, rfl, _, rfl, x.c, _, rfl, .inr (SqL.of hx8.ls), ?_⟩
      have e2 : x.sg.map sgV ++ [V.int 0] = (x.sg ++ [some false]).map sgV := sg_snoc x.sg (some false)
      refine ⟨small1000' (by rw [List.length_append, List.length_map]; show x.sg.length + 1 ≤ _; omega), fun c2 hc2 => ⟨(by show 2 ≤ sizeLine; decide), fun b2 hb2 => ?_⟩⟩
      rw [e2] at hb2 ⊢
      have hnew2 := SIok.new (L := L) hf8 ha8 hc2 hb2 hj1 (by rw [hlen2]; exact hlv' false)
      have hf9 := two_new (y := .tup [.int j1, .ref c2]) hf8 hc2 hb2
      have ha9 := two_new (y := .tup [.int j1, .ref c2]) ha8 hc2 hb2
      have K9 : Keeps [fl, al] H8 (upd (upd H8 c2 (.lst ((x.sg ++ [some false]).map sgV))) b2 (.tup [.int j1, .ref c2])) := (Keeps.new hc2 _).trans (Keeps.new hb2 _)
      have K9' := K8'.trans ((Keeps.new hc2 (.lst ((x.sg ++ [some false]).map sgV))).trans (Keeps.new hb2 (.tup [.int j1, .ref c2])))
      have hnew9 := hnew.keep K9
      generalize upd (upd H8 c2 (.lst ((x.sg ++ [some false]).map sgV))) b2 (.tup [.int j1, .ref c2]) = H9 at K9 K9' hf9 ha9 hnew2 hnew9 ⊢
      refine ⟨(by show 2 ≤ sizeLine; decide), fun e he2 => ?_⟩
      have hf10 : (upd H9 e (.lst [.ref b, .ref b2])) fl = some (.lst (fd.map fun x => V.ref x.2)) := by rw [upd_ne (ne_of_none hf9 he2)]; exact hf9
      have ha10 : (upd H9 e (.lst [.ref b, .ref b2])) al = some (.lst (r.map fun x => V.ref x.b)) := by rw [upd_ne (ne_of_none ha9 he2)]; exact ha9
      have e10 : (upd H9 e (.lst [.ref b, .ref b2])) e = some (.lst [.ref b, .ref b2]) := upd_same
      have K10 : Keeps [fl, al] H7 (upd H9 e (.lst [.ref b, .ref b2])) := (K8.trans K9).trans (Keeps.new he2 _)
      have K10' := K9'.trans (Keeps.new he2 (.lst [.ref b, .ref b2]))
      have hnew10 := hnew9.keep (Keeps.new he2 (.lst [.ref b, .ref b2]))
      have hnew20 := hnew2.keep (Keeps.new he2 (.lst [.ref b, .ref b2]))
      generalize upd H9 e (.lst [.ref b, .ref b2]) = H10 at K10 K10' hf10 ha10 e10 hnew10 hnew20 ⊢
      refine ⟨al, e, _, _, rfl, rfl, ha10, e10, Nat.le_of_lt (small8 (by rw [List.length_map]; show r.length + 2 ≤ _; omega)), ?_⟩
      have kal : Keeps [fl, al] H10 (upd H10 al (.lst ((r.map fun x => V.ref x.b) ++ [V.ref b, V.ref b2]))) := Keeps.upd_mem (by simp) _
      have hwt : wt (L - x.sg.length) = 2 * wt d + 1 := by rw [hd]; rfl
      have hmeas : meas L (r ++ [⟨j2, x.sg ++ [some true], b, c⟩, ⟨j1, x.sg ++ [some false], b2, c2⟩]) = meas L r + (wt d + wt d) := by
        rw [meas_two]
        show _ + (wt (L - (x.sg ++ [some true]).length) + wt (L - (x.sg ++ [some false]).length)) = _
        rw [hlen1, hlen2, hd']
      refine ⟨meas L (r ++ [⟨j2, x.sg ++ [some true], b, c⟩, ⟨j1, x.sg ++ [some false], b2, c2⟩]), ?_, fd, r ++ [⟨j2, x.sg ++ [some true], b, c⟩, ⟨j1, x.sg ++ [some false], b2, c2⟩], _, _, _, _, rfl, keeps_put K10' hal0 _, ?_, ?_, fun y hy => ?_, fun y hy => ?_, ?_, rfl, ?_⟩
      · rw [meas_snoc, hmeas]
        omega
      · rw [upd_ne hfa]; exact hf10
      · rw [upd_same]; simp
      · rcases List.mem_append.mp hy with hy | hy
        · exact ((hs7 y hy).keep K10).keep kal
        · rcases List.mem_cons.mp hy with rfl | hy
          · exact hnew10.keep kal
          · rw [List.mem_singleton.mp hy]
            exact hnew20.keep kal
      · exact ⟨kal _ _ (K10 _ _ (hd7 y hy).1 (hd7 y hy).2) (hd7 y hy).2, (hd7 y hy).2⟩
      · rw [outs_two, SI.out, SI.out, Sto.at_eq hj1, Sto.at_eq hj2]
        show _ ++ ((BT.pats (L - (x.sg ++ [some false]).length) (x.sg ++ [some false]).length _).map ((x.sg ++ [some false]) ++ ·) ++ ((BT.pats (L - (x.sg ++ [some true]).length) (x.sg ++ [some true]).length _).map ((x.sg ++ [some true]) ++ ·) ++ _)) = _
        rw [hlen1, hlen2, hd', ← hout, List.map_append, List.map_map, List.map_map]
        simp only [Function.comp_def, List.append_assoc, List.singleton_append]
      · rw [hmeas]
        omega
  · have hst : stk = [] := by
      cases stk with
      | nil => rfl
      | cons y ys => simp at c
    subst hst
    have e0 : outs L S [] = [] := rfl
    rw [e0, List.append_nil] at hout
    refine ⟨_, rfl, k fl _ H2 K2 hfl hf2 ⟨by rw [← hout, List.length_map, List.length_map], fun j q0 hq0 => ?_⟩⟩
    rw [← hout, List.getElem?_map] at hq0
    cases e : fd[j]? with
    | none => rw [e] at hq0; cases hq0
    | some y =>
      rw [e] at hq0
      obtain rfl := Option.some.inj hq0
      exact ⟨y.2, by rw [List.getElem?_map, e]; rfl, (hd2 y (List.mem_of_getElem? e)).1⟩
end
end Wv

end
section
set_option maxRecDepth 100000
set_option maxHeartbeats 4000000
/-! Texts of patterns; comprehensions over texts. -/
namespace L2
open PySem PySem.Spec PyProof.Rows
theorem lc_its {z : Str} {g : TG} {tt : TT} {te : TE} {vs : List Nat} {σ : St} {H1 : Hp} {D : Addr} {Qd : Hp → Prop} (Pv : Nat → Hp → Prop) (h0 : Pv 0 (upd H1 D (.lst [])))
    (hs : ∀ i c H, z.cps[i]? = some c → Pv i H → g (.str ⟨#[c]⟩) (wipe σ vs) H fun σ2 H2 => wipe σ2 vs = wipe σ vs ∧ tt σ2 H2 fun b H3 =>
      if b = true then te σ2 H3 fun y H4 => ∃ acc, H4 D = some (.lst acc) ∧ acc.length < sizeLine ∧ Pv (i + 1) (upd H4 D (.lst (acc ++ [y]))) else Pv (i + 1) H3) (hd : ∀ H, Pv z.cps.size H → Qd H) :
    ∃ W : Nat → Nat → Hp → Prop, (∃ m, W 0 m (upd H1 D (.lst []))) ∧ ∀ i m H, W i m H →
      ((Its z).stop i H ∧ Qd H) ∨ ((Its z).go i H ∧ ∃ Nx : Hp → Prop, (∀ H', Nx H' → ∃ m', m' < m ∧ W (i + 1) m' H') ∧ ∀ x H', (Its z).yld i H x H' → g x (wipe σ vs) H' fun σ2 H2 => wipe σ2 vs = wipe σ vs ∧ tt σ2 H2 fun b H3 =>
        if b = true then te σ2 H3 fun y H4 => ∃ acc, H4 D = some (.lst acc) ∧ acc.length < sizeLine ∧ Nx (upd H4 D (.lst (acc ++ [y]))) else Nx H3) := by
  refine ⟨fun i m H => m = z.cps.size - i ∧ i ≤ z.cps.size ∧ Pv i H, ⟨z.cps.size, by simp, Nat.zero_le _, h0⟩, ?_⟩
  rintro i m H ⟨rfl, hi, p⟩
  rcases Nat.lt_or_ge i z.cps.size with h | h
  · refine .inr ⟨h, fun H' => Pv (i + 1) H', fun H' q => ⟨z.cps.size - (i + 1), by omega, rfl, h, q⟩, fun x H' y => ?_⟩
    obtain ⟨rfl, c, hc, rfl⟩ := y
    exact hs i c _ hc p
  · have e : i = z.cps.size := Nat.le_antisymm hi h
    subst e
    exact .inl ⟨Nat.le_refl _, hd H p⟩
theorem lc_itf {n : Nat} {f : Nat → List V} {g : TG} {tt : TT} {te : TE} {vs : List Nat} {σ : St} {H1 : Hp} {D : Addr} {Qd : Hp → Prop} (Pv : Nat → Hp → Prop) (h0 : Pv 0 (upd H1 D (.lst [])))
    (hs : ∀ i T H, i < n → Pv i H → H T = none → g (.ref T) (wipe σ vs) (upd H T (.tup (f i))) fun σ2 H2 => wipe σ2 vs = wipe σ vs ∧ tt σ2 H2 fun b H3 =>
      if b = true then te σ2 H3 fun y H4 => ∃ acc, H4 D = some (.lst acc) ∧ acc.length < sizeLine ∧ Pv (i + 1) (upd H4 D (.lst (acc ++ [y]))) else Pv (i + 1) H3) (hd : ∀ H, Pv n H → Qd H) :
    ∃ W : Nat → Nat → Hp → Prop, (∃ m, W 0 m (upd H1 D (.lst []))) ∧ ∀ i m H, W i m H →
      ((Itf n f).stop i H ∧ Qd H) ∨ ((Itf n f).go i H ∧ ∃ Nx : Hp → Prop, (∀ H', Nx H' → ∃ m', m' < m ∧ W (i + 1) m' H') ∧ ∀ x H', (Itf n f).yld i H x H' → g x (wipe σ vs) H' fun σ2 H2 => wipe σ2 vs = wipe σ vs ∧ tt σ2 H2 fun b H3 =>
        if b = true then te σ2 H3 fun y H4 => ∃ acc, H4 D = some (.lst acc) ∧ acc.length < sizeLine ∧ Nx (upd H4 D (.lst (acc ++ [y]))) else Nx H3) := by
  refine ⟨fun i m H => m = n - i ∧ i ≤ n ∧ Pv i H, ⟨n, by simp, Nat.zero_le _, h0⟩, ?_⟩
  rintro i m H ⟨rfl, hi, p⟩
  rcases Nat.lt_or_ge i n with h | h
  · refine .inr ⟨h, fun H' => Pv (i + 1) H', fun H' q => ⟨n - (i + 1), by omega, rfl, h, q⟩, fun x H' y => ?_⟩
    obtain ⟨T, rfl, hT, rfl⟩ := y
    exact hs i T H h p hT
  · have e : i = n := Nat.le_antisymm hi h
    subst e
    exact .inl ⟨rfl, hd H p⟩
end L2
namespace Wv
open PySem PySem.Spec PyProof.Rows L2 LamX
/-! ### texts of patterns: s is the sign of a place that is not told -/
def chC (s : Nat) : Option Bool → Nat
  | none => s
  | some false => 48
  | some true => 49
def txtC (s : Nat) (q : BT.Pat) : Str := ⟨(q.map (chC s)).toArray⟩
abbrev txt (q : BT.Pat) : Str := txtC 42 q
def unc (c : Nat) : Option Bool := if c = 48 then some false else if c = 49 then some true else none
def pat (z : Str) : BT.Pat := z.cps.toList.map unc
theorem unc_chC {s : Nat} (h0 : s ≠ 48) (h1 : s ≠ 49) : ∀ o : Option Bool, unc (chC s o) = o
  | none => by show (if s = 48 then some false else if s = 49 then some true else none) = none; rw [if_neg h0, if_neg h1]
  | some false => rfl
  | some true => rfl
theorem pat_txtC {s : Nat} (h0 : s ≠ 48) (h1 : s ≠ 49) (q : BT.Pat) : pat (txtC s q) = q := by
  unfold pat txtC
  rw [List.map_map]
  exact (List.map_congr_left fun o _ => unc_chC h0 h1 o).trans (List.map_id' q)
theorem pat_txt (q : BT.Pat) : pat (txt q) = q := pat_txtC (by decide) (by decide) q
theorem len_txtC (s : Nat) (q : BT.Pat) : (txtC s q).length = q.length := by
  show ((q.map (chC s)).toArray).size = _
  simp
theorem len_pat (z : Str) : (pat z).length = z.length := by
  show (z.cps.toList.map unc).length = z.cps.size
  simp
theorem strOk_txtC {s : Nat} (h : s < 0x110000) (q : BT.Pat) : PyData.strOk (txtC s q) = true := by
  unfold PyData.strOk txtC
  rw [Array.all_eq_true_iff_forall_mem]
  intro c hc
  obtain ⟨o, _, rfl⟩ := List.mem_map.mp (List.mem_toArray.mp hc)
  match o with
  | none => exact decide_eq_true h
  | some false => rfl
  | some true => rfl
theorem txtC_inj {s : Nat} (h0 : s ≠ 48) (h1 : s ≠ 49) {p q : BT.Pat} (h : txtC s p = txtC s q) : p = q := by
  rw [← pat_txtC h0 h1 p, h, pat_txtC h0 h1]
theorem lits_snoc (o : Option Bool) : ∀ (p : BT.Pat) (i : Nat), BT.lits i (p ++ [o]) = BT.lits i p ++ (match o with | none => [] | some b => [(i + p.length, b)])
  | [], i => by cases o <;> rfl
  | none :: r, i => by
    have := lits_snoc o r (i + 1)
    rw [List.length_cons, show i + (r.length + 1) = i + 1 + r.length by omega]
    exact this
  | some b :: r, i => by
    have := lits_snoc o r (i + 1)
    rw [List.length_cons, show i + (r.length + 1) = i + 1 + r.length by omega]
    show (i, b) :: BT.lits (i + 1) (r ++ [o]) = (i, b) :: BT.lits (i + 1) r ++ _
    rw [this]
    rfl
theorem signs_snoc (p : BT.Pat) (o : Option Bool) : signKvs (p ++ [o]) = signKvs p ++ (match o with | none => [] | some b => [((Sum.inl (p.length : Int) : Key), V.int (bnum b : Nat))]) := by
  unfold signKvs
  rw [lits_snoc, List.map_append]
  cases o with
  | none => rfl
  | some b => rw [Nat.zero_add]; rfl
theorem signs_new (p : BT.Pat) : valV (signKvs p) (Sum.inl (p.length : Int)) = none := by
  have key : ∀ (xs : List (Nat × Bool)) (n : Nat), (∀ x ∈ xs, x.1 < n) → valV (xs.map fun x => ((Sum.inl (x.1 : Int) : Key), V.int (bnum x.2 : Nat))) (Sum.inl (n : Int)) = none := by
    intro xs
    induction xs with
    | nil => intro n _; rfl
    | cons x xs ih =>
      intro n h
      rw [List.map_cons, valV_neg (fun z => by
        have z' : (Sum.inl (x.1 : Int) : Key) = Sum.inl (n : Int) := z
        injection z' with z'
        have := h x List.mem_cons_self
        omega)]
      exact ih n fun y hy => h y (List.mem_cons_of_mem _ hy)
  exact key _ _ fun x hx => by have := (BT.lits_ge hx).2; omega
theorem signs_len (p : BT.Pat) : (signKvs p).length ≤ p.length := by
  unfold signKvs
  rw [List.length_map]
  exact lits_len p 0
/-- '01'.index of a sign -/
theorem occ0 : Builtin.Str.occurrences (Str.ofString "01") ⟨#[48]⟩ 0 (Str.ofString "01").length 1 = [0] := by decide +kernel
theorem occ1 : Builtin.Str.occurrences (Str.ofString "01") ⟨#[49]⟩ 0 (Str.ofString "01").length 1 = [1] := by decide +kernel
theorem cps01 : (Str.ofString "01").cps.toList = [48, 49] := by decide +kernel
theorem unc_some {c : Nat} {b : Bool} (h : unc c = some b) : c = 48 + bnum b := by
  unfold unc at h
  split at h
  · cases h; assumption
  · split at h
    · cases h; assumption
    · cases h
theorem unc_none {c : Nat} (h : unc c = none) : c ≠ 48 ∧ c ≠ 49 := by
  unfold unc at h
  split at h
  · cases h
  · split at h
    · cases h
    · exact ⟨by assumption, by assumption⟩
end Wv

end
section
set_option maxRecDepth 100000
set_option maxHeartbeats 8000000
/-! words, heads: the checks, signs_of. Printed from K73U1.tpl by tm.py. -/
namespace Wv
open PySem PySem.Spec PyProof.Rows L2 LamX
def spSigns : Sp := fun vs H Q _ => ∃ z : Str, vs = [.str z] ∧ z.length ≤ 1000 ∧ ∀ (d : Addr) (H' : Hp), Keeps [] H H' → H d = none → H' d = some (.dK (signKvs (pat z))) → Q (.ref d) H'
def spInt1 : Sp := fun vs H Q _ => ∃ n : Int, vs = [.int n] ∧ Q (.bl true) H
def spBetween : Sp := fun vs H Q _ => ∃ n a b : Int, vs = [.int n, .int a, .int b] ∧ Q (.bl (decide (a ≤ n ∧ n ≤ b))) H
def spWidth : Sp := fun vs H Q _ => ∃ n : Nat, vs = [.int (n : Int)] ∧ 1 ≤ n ∧ n ≤ 16 ∧ Q .non H
section
variable {P : Program} {w : World} {K : PySem.W.Frag} {mg : Str → Option Value} {base h : Heap} (T : Tp K mg w h)
include T
theorem ok_signs_of : FnR P w K mg base CX0 1 (He.ga K "signs_of") spSigns := by
  refine fnR0_of T.F_signs_of sc_signs_of (fun _ _ _ _ _ _ us hl => match us, hl with | [_], _ => rfl) (fun vs H Q E h => ?_) (fun cdv AA outer s H vs Q E hr h => ?_)
  · obtain ⟨z, rfl, _⟩ := h
    rfl
  obtain ⟨z, rfl, hz, k⟩ := h
  have hu := hu_of hr
  refine ⟨_, (pss_cons (ps_set (i := 1) sc_signs_of.nd rfl (Or.inl rfl) pe_dnewK)
      (pss_cons (ps_for PassesOwn.never rfl (pi_enumS rfl T.z_enumerate (pa_cons (pv 0) pa_nil)) (pg_tup (by rfl) (pgs_cons (pg_name (i := 2) sc_signs_of.nd rfl (Or.inl rfl)) (pgs_cons (pg_name (i := 3) sc_signs_of.nd rfl (Or.inl rfl)) pgs_nil))) (pss_one (ps_if (pt_cmpR op_in_sign (pv 3) (pe_gstr T.i_SIGNS) (by rfl)) (pss_one (ps_dput hu (pv 1) (pv 2) (pe_bm PySem.F.plainAttrs_str PySem.F.slot_str_index PySem.F.type_str_index mt_sindex (pe_gstr T.i_SIGNS) (pa_cons (pv 3) pa_nil)) rfl)) pss_nil)))
      (pss_one (ps_ret (pv 1))))), ?_⟩
  refine fun d hd => ?_
  have hd0 : (upd H d (.dK [])) d = some (.dK []) := upd_same
  have K0 : Keeps [] H (upd H d (.dK [])) := Keeps.new hd _
  generalize upd H d (.dK []) = H0 at hd0 K0 ⊢
  refine ⟨_, rfl, z, rfl, for_itf (fun i σ H' => ∃ v2 v3 : Option V, σ = [some (.str z), some (.ref d), v2, v3] ∧ Keeps [] H H' ∧ H' d = some (.dK (signKvs ((pat z).take i)))) ⟨none, none, rfl, K0, hd0⟩ ?_ ?_⟩
  · rintro i σ H1 q hi ⟨v2, v3, rfl, K1, hd1⟩ hq
    have K2 := K1.trans (Keeps.new hq (.tup (enumF z i)))
    have hd2 : (upd H1 q (.tup (enumF z i))) d = some (.dK (signKvs ((pat z).take i))) := by rw [upd_ne (ne_of_none hd1 hq)]; exact hd1
    refine ⟨q, _, rfl, SqT.of upd_same, rfl, _, _, rfl, _, _, rfl, rfl, ?_⟩
    generalize upd H1 q (.tup (enumF z i)) = H2 at K2 hd2 ⊢
    have hc : z.cps.toList[i]? = some (z.cps.getD i 0) := by
      rw [Array.getElem?_toList, Array.getD_eq_getD_getElem?, Array.getElem?_eq_getElem hi]
      rfl
    have hp : (pat z)[i]? = some (unc (z.cps.getD i 0)) := by
      unfold pat
      rw [List.getElem?_map, hc]
      rfl
    have htk := take_more hp
    have hlen : ((pat z).take i).length = i := by rw [List.length_take, len_pat]; exact Nat.min_eq_left (Nat.le_of_lt hi)
    have hi2 : i < z.length := hi
    generalize z.cps.getD i 0 = c at hp htk ⊢
    refine ⟨_, rfl, c, _, rfl, rfl, _, rfl, ?_⟩
    rw [cps01]
    cases hu' : unc c with
    | none =>
      obtain ⟨n0, n1⟩ := unc_none hu'
      refine iteF' (by simp [n0, n1]) ?_
      refine ⟨_, _, rfl, K2, ?_⟩
      rw [htk, hu', signs_snoc, List.append_nil]
      exact hd2
    | some b =>
      have ec := unc_some hu'
      have hnew := signs_new ((pat z).take i)
      rw [hlen] at hnew
      have hle := signs_len ((pat z).take i)
      refine iteT' (by cases b <;> simp [ec, bnum]) ?_
      have fin : some (HO.dK (putK (signKvs ((pat z).take i)) (Sum.inl (i : Int)) (V.int (bnum b : Nat)))) = some (HO.dK (signKvs ((pat z).take (i + 1)))) := by
        rw [putK_new _ hnew, htk, hu', signs_snoc, hlen]
      have hix : ∃ rest, Builtin.Str.occurrences (Str.ofString "01") ⟨#[c]⟩ 0 (Str.ofString "01").length 1 = bnum b :: rest := by
        rw [ec]
        cases b
        · exact ⟨_, occ0⟩
        · exact ⟨_, occ1⟩
      obtain ⟨rest, hix⟩ := hix
      refine ⟨rfl, _, rfl, _, _, _, _, rfl, rfl, hix, ?_⟩
      refine ⟨_, rfl, _, rfl, d, _, rfl, DPut.k (k := Sum.inl (i : Int)) hd2 (small8 (by omega)), ?_⟩
      exact ⟨_, _, rfl, keeps_put K2 hd _, by rw [upd_same]; exact fin⟩
  · rintro σ H1 ⟨v2, v3, rfl, K1, hd1⟩
    refine ⟨_, rfl, k d H1 K1 hd ?_⟩
    have e : (pat z).take z.cps.size = pat z := by rw [List.take_of_length_le]; rw [len_pat]; exact Nat.le_refl _
    rw [← e]
    exact hd1
theorem ok_is_integer : FnR P w K mg base CX0 1 (He.ga K "is_integer") spInt1 := by
  refine fnR0_of T.F_is_integer sc_is_integer (fun _ _ _ _ _ _ us hl => match us, hl with | [_], _ => rfl) (fun vs H Q E h => ?_) (fun cdv AA outer s H vs Q E hr h => ?_)
  · obtain ⟨z, rfl, _⟩ := h
    rfl
  obtain ⟨n, rfl, k⟩ := h
  refine ⟨_, (pss_one (ps_ret (pe_and (pe_callB call_isi (by rfl) T.z_isinstance (by decide +kernel) (pa_cons (pv 0) (pa_cons (pe_bltn (v := .ty "int") (u := .type "int") (by rfl) T.z_int (by decide +kernel) rfl) pa_nil))) (pe_one (pe_not (pe_callB call_isi (by rfl) T.z_isinstance (by decide +kernel) (pa_cons (pv 0) (pa_cons (pe_bltn (v := .ty "bool") (u := .type "bool") (by rfl) T.z_bool (by decide +kernel) rfl) pa_nil)))))))), ?_⟩
  refine ⟨_, rfl, _, _, .type "int", .type "int", true, rfl, .ty _, .base (.int _), (by rfl), true, rfl, ?_⟩
  refine ⟨_, rfl, _, _, .type "int", .type "bool", false, rfl, .ty _, .base (.int _), (by rfl), false, rfl, ?_⟩
  exact k
theorem ok_is_between : FnR P w K mg base CX0 2 (He.ga K "is_between") spBetween := by
  refine fnR0_of T.F_is_between sc_is_between (fun _ _ _ _ _ _ us hl => match us, hl with | [_, _, _], _ => rfl) (fun vs H Q E h => ?_) (fun cdv AA outer s H vs Q E hr h => ?_)
  · obtain ⟨n, a, b, rfl, _⟩ := h
    rfl
  obtain ⟨n, a, b, rfl, k⟩ := h
  refine ⟨_, (pss_one (ps_ret (pe_and (pe_callR (ok_is_integer T) (hr.mono (by decide)) T.k_is_integer rfl T.m_is_integer pass0 (pa_cons (pv 0) pa_nil)) (pe_one (pe_chain op_le op_le (pv 1) (pv 0) (pv 2)))))), ?_⟩
  refine ⟨_, rfl, n, rfl, true, rfl, ?_⟩
  refine ⟨_, rfl, _, rfl, _, _, rfl, rfl, _, rfl, ?_⟩
  by_cases c : a ≤ n
  · refine iteT' (decide_eq_true c) ?_
    refine ⟨_, rfl, _, _, rfl, rfl, ?_⟩
    by_cases c2 : n ≤ b
    · rw [decide_eq_true ⟨c, c2⟩] at k
      show Q (.bl (decide (n ≤ b))) H
      rw [decide_eq_true c2]
      exact k
    · rw [decide_eq_false (fun z => c2 z.2)] at k
      show Q (.bl (decide (n ≤ b))) H
      rw [decide_eq_false c2]
      exact k
  · refine iteF' (decide_eq_false c) ?_
    rw [decide_eq_false (fun z => c z.1)] at k
    exact k
theorem ok_check_width : FnR P w K mg base CX0 3 (He.ga K "check_width") spWidth := by
  refine fnR0_of T.F_check_width sc_check_width (fun _ _ _ _ _ _ us hl => match us, hl with | [_], _ => rfl) (fun vs H Q E h => ?_) (fun cdv AA outer s H vs Q E hr h => ?_)
  · obtain ⟨n, rfl, _⟩ := h
    rfl
  obtain ⟨n, rfl, h1, h16, k⟩ := h
  refine ⟨_, (pss_one (ps_if (pt_not (pt_val (pe_callR (ok_is_between T) (hr.mono (by decide)) T.k_is_between rfl T.m_is_between pass0 (pa_cons (pv 0) (pa_cons pe_int (pa_cons (pe_gint T.i_MOST_WIDTH) pa_nil)))))) (pss_one ps_never) pss_nil)), ?_⟩
  refine ⟨_, rfl, (n : Int), 1, 16, rfl, ?_⟩
  rw [decide_eq_true (show (1 : Int) ≤ n ∧ (n : Int) ≤ 16 by omega)]
  refine ⟨true, rfl, ?_⟩
  exact iteF' rfl k
end
end Wv

end
section
set_option maxRecDepth 100000
set_option maxHeartbeats 8000000
/-! heads: is_row and what stands on it, tree_of. Printed from K73U2.tpl by tm.py. -/
namespace Wv
open PySem PySem.Spec PyProof.Rows L2 LamX
def spIsRow : Sp := fun vs H Q _ => ∃ (n : Nat) (z g : Str), vs = [.int (n : Int), .str z, .str g] ∧ z.length = n ∧ n ≤ 1000 ∧ (∀ c ∈ z.cps.toList, c ∈ g.cps.toList) ∧ ∀ H', Keeps [] H H' → Q (.bl true) H'
def spIsOf (g : Str) : Sp := fun vs H Q _ => ∃ (n : Nat) (z : Str), vs = [.int (n : Int), .str z] ∧ z.length = n ∧ n ≤ 1000 ∧ (∀ c ∈ z.cps.toList, c ∈ g.cps.toList) ∧ ∀ H', Keeps [] H H' → Q (.bl true) H'
/-- a tuple of patterns' texts -/
abbrev txts (qs : List BT.Pat) : List V := qs.map fun q => V.str (txt q)
def spPats : Sp := fun vs H Q _ => ∃ (n : Nat) (a : Addr) (qs : List BT.Pat), vs = [.int (n : Int), .ref a] ∧ H a = some (.tup (txts qs)) ∧ (∀ q ∈ qs, q.length = n) ∧ n ≤ 1000 ∧ qs.length ≤ 4000 ∧ ∀ H', Keeps [] H H' → Q (.bl true) H'
def spTreeOf (P : Program) (w : World) (C : Addr) : Sp := fun vs H Q _ => ∃ (p a : Addr) (A : TA) (L : Nat) (S : Sto) (n : Nat) (qs : List BT.Pat), vs = [.ref p, .ref a] ∧ TAt P w C H p A L S n ∧ L ≤ 16 ∧ H a = some (.tup (txts qs)) ∧ (∀ q ∈ qs, q.length = L) ∧ qs.length ≤ 4000 ∧
  n + (qs.length * L + rcs qs) ≤ cap ∧ ∀ (k : Nat) (S' : Sto) (H' : Hp), TAt P w C H' p A L S' (n + (qs.length * L + rcs qs)) → Ext S S' → Keeps (fps A) H H' → S'.ts[k]? = some (BT.ofPats L qs) → Q (.int k) H'
theorem txt_in {q : BT.Pat} {c : Nat} (h : c ∈ (txt q).cps.toList) : c ∈ (Str.ofString "01*").cps.toList := by
  have e : (Str.ofString "01*").cps.toList = [48, 49, 42] := by decide +kernel
  rw [e]
  obtain ⟨o, _, rfl⟩ := List.mem_map.mp (show c ∈ q.map (chC 42) from h)
  match o with
  | none => decide
  | some false => decide
  | some true => decide
theorem keeps_upd {fp : List Addr} {H0 H : Hp} {a : Addr} (k : Keeps fp H0 H) (h0 : H0 a = none) (o : HO) : Keeps fp H0 (upd H a o) := fun b u e n => by
  have hb : b ≠ a := fun z => by rw [z, h0] at e; cases e
  rw [upd_ne hb]
  exact k b u e n
section
variable {P : Program} {w : World} {K : PySem.W.Frag} {mg : Str → Option Value} {base h : Heap} (T : Tp K mg w h)
include T
theorem ok_is_row : FnR P w K mg base CX0 1 (He.ga K "is_row") spIsRow := by
  refine fnR0_of T.F_is_row sc_is_row (fun _ _ _ _ _ _ us hl => match us, hl with | [_, _, _], _ => rfl) (fun vs H Q E h => ?_) (fun cdv AA outer s H vs Q E hr h => ?_)
  · obtain ⟨n, z, g, rfl, _⟩ := h
    rfl
  obtain ⟨n, z, g, rfl, hz, hn, hin, k⟩ := h
  refine ⟨_, (pss_one (ps_ret (pe_and (pe_callB call_isi (by rfl) T.z_isinstance (by decide +kernel) (pa_cons (pv 1) (pa_cons (pe_bltn (v := .ty "str") (u := .type "str") (by rfl) T.z_str (by decide +kernel) rfl) pa_nil))) (pe_and (pe_cmpR op_eq (pe_callB call_len_str (by rfl) T.z_len PySem.boot_len (pa_cons (pv 1) pa_nil)) (pv 0) (nomark _)) (pe_one (pe_callB (cr_all rfl) (by rfl) T.z_all (by decide +kernel) (pa_cons (pe_lc (own := [("sign", 3)]) rfl sc_is_row.nd (pi_str (pv 1)) (blkOk_by (N := ["width", "value", "signs", "sign"]) (sc := defScope s_is_row) (by decide +kernel)) (fun _ _ _ _ _ => (pg_name (i := 3) sc_is_row.nd rfl (Or.inl rfl))) (fun _ _ _ _ _ => pts_nil) (fun _ _ _ _ _ => (pe_cmpR op_in_sign (pv 3) (pv 2) (by rfl)))) pa_nil))))))), ?_⟩
  refine ⟨_, rfl, _, _, .type "str", .type "str", true, rfl, .ty _, .base (.str _), (by rfl), true, rfl, ?_⟩
  refine ⟨_, rfl, z, rfl, (by rw [hz]; exact small1000' hn), _, rfl, rfl, true, by rw [hz]; simp, ?_⟩
  refine ⟨_, rfl, z, rfl, fun D hD => lc_its (fun i H' => H' = upd H D (.lst ((List.replicate i true).map V.bl))) rfl ?_ ?_⟩
  · rintro i c H' hc rfl
    have hi : i < z.length := by obtain ⟨h, _⟩ := Array.getElem?_eq_some_iff.mp hc; exact h
    refine ⟨rfl, _, rfl, _, rfl, c, g, rfl, rfl, _, upd_same, by rw [List.length_map, List.length_replicate]; exact small1000 (by omega), ?_⟩
    have hmem : c ∈ g.cps.toList := hin c (by rw [Array.mem_toList_iff]; exact Array.mem_of_getElem? hc)
    rw [decide_eq_true hmem, upd_upd, List.replicate_succ', List.map_append]
    rfl
  · rintro H' rfl
    refine ⟨D, _, rfl, SqL.of upd_same, ?_⟩
    rw [show (List.replicate z.cps.size true).all id = true by simp]
    exact k _ (Keeps.new hD _)
theorem ok_is_head_of : FnR P w K mg base CX0 2 (He.ga K "is_head_of") (spIsOf "01") := by
  refine fnR0_of T.F_is_head_of sc_is_head_of (fun _ _ _ _ _ _ us hl => match us, hl with | [_, _], _ => rfl) (fun vs H Q E h => ?_) (fun cdv AA outer s H vs Q E hr h => ?_)
  · obtain ⟨n, z, rfl, _⟩ := h
    rfl
  obtain ⟨n, z, rfl, hz, hn, hin, k⟩ := h
  refine ⟨_, (pss_one (ps_ret (pe_callR (ok_is_row T) (hr.mono (by decide)) T.k_is_row rfl T.m_is_row pass0 (pa_cons (pv 0) (pa_cons (pv 1) (pa_cons (pe_gstr T.i_SIGNS) pa_nil)))))), ?_⟩
  exact ⟨_, rfl, _, rfl, n, z, _, rfl, hz, hn, hin, k⟩
theorem ok_is_pattern_of : FnR P w K mg base CX0 2 (He.ga K "is_pattern_of") (spIsOf "01*") := by
  refine fnR0_of T.F_is_pattern_of sc_is_pattern_of (fun _ _ _ _ _ _ us hl => match us, hl with | [_, _], _ => rfl) (fun vs H Q E h => ?_) (fun cdv AA outer s H vs Q E hr h => ?_)
  · obtain ⟨n, z, rfl, _⟩ := h
    rfl
  obtain ⟨n, z, rfl, hz, hn, hin, k⟩ := h
  refine ⟨_, (pss_one (ps_ret (pe_callR (ok_is_row T) (hr.mono (by decide)) T.k_is_row rfl T.m_is_row pass0 (pa_cons (pv 0) (pa_cons (pv 1) (pa_cons (pe_op op_add_str (pe_gstr T.i_SIGNS) (pe_gstr T.i_ANY)) pa_nil)))))), ?_⟩
  exact ⟨_, rfl, _, rfl, _, _, rfl, rfl, by decide, n, z, _, rfl, hz, hn, hin, k⟩
theorem ok_is_mask_of : FnR P w K mg base CX0 2 (He.ga K "is_mask_of") (spIsOf "01=") := by
  refine fnR0_of T.F_is_mask_of sc_is_mask_of (fun _ _ _ _ _ _ us hl => match us, hl with | [_, _], _ => rfl) (fun vs H Q E h => ?_) (fun cdv AA outer s H vs Q E hr h => ?_)
  · obtain ⟨n, z, rfl, _⟩ := h
    rfl
  obtain ⟨n, z, rfl, hz, hn, hin, k⟩ := h
  refine ⟨_, (pss_one (ps_ret (pe_callR (ok_is_row T) (hr.mono (by decide)) T.k_is_row rfl T.m_is_row pass0 (pa_cons (pv 0) (pa_cons (pv 1) (pa_cons (pe_op op_add_str (pe_gstr T.i_SIGNS) (pe_gstr T.i_STAY)) pa_nil)))))), ?_⟩
  exact ⟨_, rfl, _, rfl, _, _, rfl, rfl, by decide, n, z, _, rfl, hz, hn, hin, k⟩
theorem ok_are_patterns : FnR P w K mg base CX0 3 (He.ga K "are_patterns") spPats := by
  refine fnR0_of T.F_are_patterns sc_are_patterns (fun _ _ _ _ _ _ us hl => match us, hl with | [_, _], _ => rfl) (fun vs H Q E h => ?_) (fun cdv AA outer s H vs Q E hr h => ?_)
  · obtain ⟨n, a, qs, rfl, _⟩ := h
    rfl
  obtain ⟨n, a, qs, rfl, ha, hq, hn, hl, k⟩ := h
  refine ⟨_, (pss_cons (ps_if (PW.pt (pw_or (pt_not (pt_val (pe_callB call_isi (by rfl) T.z_isinstance (by decide +kernel) (pa_cons (pv 1) (pa_cons (pe_bltn (v := .ty "tuple") (u := .type "tuple") (by rfl) T.z_tuple (by decide +kernel) rfl) pa_nil))))) (pw_or1 (pt_cmpR op_gt (pe_callB call_len_seq (by rfl) T.z_len PySem.boot_len (pa_cons (pv 1) pa_nil)) (pe_gint T.i_MOST_PATTERNS) (nomark _))))) (pss_one (ps_ret pe_bl)) pss_nil)
      (pss_one (ps_ret (pe_callB (cr_all rfl) (by rfl) T.z_all (by decide +kernel) (pa_cons (pe_lc (own := [("pattern", 2)]) rfl sc_are_patterns.nd (pi_tup (pv 1)) (blkOk_by (N := ["width", "value", "pattern"]) (sc := defScope s_are_patterns) (by decide +kernel)) (fun _ _ _ _ _ => (pg_name (i := 2) sc_are_patterns.nd rfl (Or.inl rfl))) (fun _ _ _ _ _ => pts_nil) (fun _ _ _ _ _ => (pe_callR (ok_is_pattern_of T) (hr.mono (by decide)) T.k_is_pattern_of rfl T.m_is_pattern_of pass0 (pa_cons (pv 0) (pa_cons (pv 2) pa_nil))))) pa_nil))))), ?_⟩
  refine ⟨_, rfl, _, _, .type "tuple", .type "tuple", true, rfl, .ty _, .base (.tup ha), (by rfl), true, rfl, ?_⟩
  refine iteF' rfl ?_
  refine ⟨_, rfl, a, _, rfl, .inr (SqT.of ha), _, _, rfl, rfl, _, rfl, ?_⟩
  rw [decide_eq_false (show ¬ (4000 : Int) < ((txts qs).length : Nat) by rw [List.length_map]; omega)]
  refine iteF' rfl ?_
  refine ⟨_, rfl, a, rfl, ⟨_, SqT.of ha⟩, fun D hD => lc_tup (K := K) (a := a) (xs := txts qs) (fun i H' => Keeps [] H H' ∧ H' D = some (.lst ((List.replicate i true).map V.bl))) ⟨Keeps.new hD _, upd_same⟩ (fun i H' _ e => SqT.of (e.1 a _ ha (by simp))) ?_ ?_⟩
  · rintro i x H' hx ⟨K1, hD1⟩
    obtain ⟨q, hq', rfl⟩ : ∃ q, qs[i]? = some q ∧ x = V.str (txt q) := by
      rw [List.getElem?_map] at hx
      cases e : qs[i]? with
      | none => rw [e] at hx; cases hx
      | some q => rw [e] at hx; exact ⟨q, rfl, (Option.some.inj hx).symm⟩
    have hi := ix_lt hq'
    refine ⟨rfl, _, rfl, _, rfl, n, txt q, rfl, (by rw [len_txtC]; exact hq q (List.mem_of_getElem? hq')), hn, fun c hc => txt_in hc, fun H2 K2 => ?_⟩
    have hD2 := K2 D _ hD1 (by simp)
    refine ⟨_, hD2, by rw [List.length_map, List.length_replicate]; exact small8 (by omega), keeps_put (K1.trans K2) hD _, ?_⟩
    rw [upd_same, List.replicate_succ', List.map_append]
    rfl
  · rintro H' ⟨K1, hD1⟩
    refine ⟨D, _, rfl, SqL.of hD1, ?_⟩
    rw [show (List.replicate (txts qs).length true).all id = true by simp]
    exact k _ K1
theorem ok_tree_of : FnR P w K mg base CX0 21 (He.ga K "tree_of") (spTreeOf P w (TC K)) := by
  refine fnR0_of T.F_tree_of sc_tree_of (fun _ _ _ _ _ _ us hl => match us, hl with | [_, _], _ => rfl) (fun vs H Q E h => ?_) (fun cdv AA outer s H vs Q E hr h => ?_)
  · obtain ⟨p, a, A, L, S, n, qs, rfl, _⟩ := h
    rfl
  obtain ⟨p, a, A, L, S, n, qs, rfl, st, h16, ha, hq, hl, hc, k⟩ := h
  refine ⟨_, (pss_one (ps_ret (pe_methR (pv 0) T.cl_Trees T.m_Trees_together (ok_Trees_together T) (hr.mono (by decide)) pass0 (pa_cons (pe_lc (own := [("pattern", 2)]) rfl sc_tree_of.nd (pi_tup (pv 1)) (blkOk_by (N := ["trees", "patterns", "pattern"]) (sc := defScope s_tree_of) (by decide +kernel)) (fun _ _ _ _ _ => (pg_name (i := 2) sc_tree_of.nd rfl (Or.inl rfl))) (fun _ _ _ _ _ => pts_nil) (fun _ _ _ _ _ => (pe_methR (pv 0) T.cl_Trees T.m_Trees_row (ok_Trees_row (P := P) (base := base) T) (hr.mono (by decide)) pass0 (pa_cons (pe_callR (ok_signs_of T) (hr.mono (by decide)) T.k_signs_of rfl T.m_signs_of pass0 (pa_cons (pv 2) pa_nil)) pa_nil)))) pa_nil)))), ?_⟩
  have C := T.cl_Trees
  have hcap : cap = 8000000 := rfl
  refine ⟨_, rfl, p, _, _, rfl, st.ob, no_together _ _, _, rfl, a, rfl, ⟨_, SqT.of ha⟩, fun D hD => ?_⟩
  have hnf : a ∉ fps A := st.tup_ne ha
  have hDf : D ∉ fps A := st.none_ne hD
  refine lc_tup (K := K) (a := a) (xs := txts qs) (fun i H' => ∃ (is : List Nat) (S' : Sto), is.length = i ∧ H' D = some (.lst (nums is)) ∧ (∀ (j k : Nat) (q : BT.Pat), is[j]? = some k → qs[j]? = some q → S'.ts[k]? = some (BT.rowT (BT.lits 0 q))) ∧ TAt P w (TC K) H' p A L S' (n + i * L) ∧ Ext S S' ∧ Keeps (fps A) H H')
    ⟨[], S, rfl, upd_same, (fun j k q e => by simp at e), (by rw [Nat.zero_mul]; exact st.new hD _), Ext.refl S, Keeps.new hD _⟩ (fun i H' _ ⟨_, _, _, _, _, _, _, K'⟩ => SqT.of (K' a _ ha hnf)) ?_ ?_
  · rintro i x H1 hx ⟨is, S1, his, hD1, hrow, st1, E1, K1⟩
    obtain ⟨q, hq', rfl⟩ : ∃ q, qs[i]? = some q ∧ x = V.str (txt q) := by
      rw [List.getElem?_map] at hx
      cases e : qs[i]? with
      | none => rw [e] at hx; cases hx
      | some q => rw [e] at hx; exact ⟨q, rfl, (Option.some.inj hx).symm⟩
    have hi := ix_lt hq'
    have hql := hq q (List.mem_of_getElem? hq')
    have hiL : i * L + L ≤ qs.length * L := by
      rw [show i * L + L = (i + 1) * L by rw [Nat.add_mul, Nat.one_mul]]
      exact Nat.mul_le_mul_right L hi
    refine ⟨rfl, _, rfl, p, _, _, rfl, st1.ob, no_row _ _, _, rfl, txt q, rfl, (by rw [len_txtC]; omega), fun d H2 K2 hd0 hd2 => ?_⟩
    rw [pat_txt] at hd2
    have st2 := st1.keep K2
    refine ⟨p, d, A, L, S1, n + i * L, q, rfl, st2, hd2, hql, by omega, fun k1 S3 H3 st3 E3 K3 hk1 => ?_⟩
    have hD2 := K2 D _ hD1 (by simp)
    have hD3 := K3 D _ hD2 hDf
    have hpD : p ≠ D := ne_of st3.ob hD3 (by intro z; cases z)
    refine ⟨_, hD3, by rw [List.length_map, his]; exact small8 (by omega), is ++ [k1], S3, by rw [List.length_append, his]; rfl, ?_, ?_, ?_, E1.trans E3, ?_⟩
    · rw [upd_same, nums_app]; rfl
    · intro j k2 q2 e1 e2
      rcases Nat.lt_or_ge j is.length with h1 | h1
      · rw [List.getElem?_append_left h1] at e1
        exact E3 _ _ (hrow j k2 q2 e1 e2)
      · rcases get_snoc e1 with e3 | ⟨e3, rfl⟩
        · rw [List.getElem?_eq_none h1] at e3; cases e3
        · rw [e3, his, hq'] at e2
          cases e2
          exact hk1
    · have e : n + (i + 1) * L = n + i * L + L := by rw [Nat.add_mul, Nat.one_mul]; omega
      rw [e]
      refine st3.stay (fun b u hb e => ?_) fun b ys e => ?_
      · have hb' : b ≠ D := fun z => by
          rcases hb with hb | hb
          · exact hpD (hb.symm.trans z)
          · exact hDf (by rw [← z]; exact hb)
        rw [upd_ne hb']
        exact e
      · rw [upd_ne (ne_of e hD3 (by intro z; cases z))]
        exact e
    · exact keeps_upd ((K1.trans (K2.mono (by simp))).trans K3) hD _
  · rintro H1 ⟨is, S1, his, hD1, hrow, st1, E1, K1⟩
    have el : (txts qs).length = qs.length := by simp
    rw [el] at his st1
    refine ⟨p, D, A, L, S1, n + qs.length * L, is, qs, rfl, st1, h16, hD1, hDf, his, hrow, hq, by omega, fun k1 S2 H2 st2 E2 K2 hk1 => ?_⟩
    exact k k1 S2 H2 (st2.mono (by omega)) (E1.trans E2) (K1.trans K2) hk1
end
end Wv

end
section
set_option maxRecDepth 100000
set_option maxHeartbeats 8000000
/-! heads: told_heads. Printed from K73U3.tpl by tm.py. -/
namespace Wv
open PySem PySem.Spec PyProof.Rows L2 LamX
theorem join_chars : ∀ cs : List Nat, TL.tl (Str.join (Str.ofString "") (cs.map fun c => (⟨#[c]⟩ : Str))) = cs := by
  intro cs
  rw [TL.tl_join]
  have e : TL.tl (Str.ofString "") = [] := by decide +kernel
  rw [e, List.map_map]
  induction cs with
  | nil => rfl
  | cons c cs ih =>
    cases cs with
    | nil => rfl
    | cons d cs =>
      show [c] ++ ([] ++ TL.joinL [] ((d :: cs).map _)) = _
      rw [ih]
      rfl
theorem join_txt (s : Nat) (q : BT.Pat) : Txt.join (Str.ofString "") (q.map fun o => (⟨#[chC s o]⟩ : Str)) = txtC s q := by
  rw [TL.join_eq]
  have e := join_chars (q.map (chC s))
  rw [List.map_map] at e
  have e2 : (Str.join (Str.ofString "") (q.map fun o => (⟨#[chC s o]⟩ : Str))).cps.toList = q.map (chC s) := e
  generalize Str.join (Str.ofString "") (q.map fun o => (⟨#[chC s o]⟩ : Str)) = z at e2
  obtain ⟨a⟩ := z
  unfold txtC
  rw [← e2]
theorem sg_ne_txts {q : BT.Pat} {qs : List BT.Pat} (h : q ≠ []) : q.map sgV ≠ txts qs := fun e => by
  cases q with
  | nil => exact h rfl
  | cons o q =>
    cases qs with
    | nil => cases e
    | cons r qs =>
      rw [List.map_cons, txts, List.map_cons] at e
      injection e with e1 _
      cases o <;> cases e1
theorem keepx_putX {H0 H : Hp} {a : Addr} (k : KeepX [] H0 H) (h0 : NewX H0 a) (o : HO) : KeepX [] H0 (upd H a o) := fun b u e n t => by
  rw [upd_ne (h0.ne e t)]
  exact k b u e n t
/-- an error TooMany(4000) is as wished -/
def Boom (K : PySem.W.Frag) (E : XK) : Prop := ∀ (d : Addr) (H : Hp), H d = some (.xd [(("value" : Str), V.int 4000)]) → E (.ref (He.ga K "TooMany")) (some d) H
abbrev Ne (P : Program) (K : PySem.W.Frag) : Prop := PySem.NeX.NeTxt K P (He.ga K "TooMany") (He.ga K "NetError") (He.ma K (He.ga K "NetError") "__init__")
/-- a tree told as texts, or too many -/
def Tells (K : PySem.W.Frag) (L : Nat) (t : BT) (H : Hp) (Q : VK) (E : XK) : Prop :=
  (BT.np t ≤ 4000 → ∀ (a : Addr) (H' : Hp), KeepX [] H H' → Tabs (TT K) H' → NewX H a → H' a = some (.tup (txts (BT.pats L 0 t))) → Q (.ref a) H') ∧ (4000 < BT.np t → Boom K E)
def spTold (P : Program) (w : World) (K : PySem.W.Frag) : Sp := fun vs H Q E => ∃ (p : Addr) (A : TA) (L : Nat) (S : Sto) (n i : Nat) (t : BT), vs = [.ref p, .int i] ∧ TAt P w (TC K) H p A L S n ∧ Tabs (TT K) H ∧ 1 ≤ L ∧ L ≤ 16 ∧ S.ts[i]? = some t ∧ n ≤ cap ∧ Tells K L t H Q E
/-- what is let out goes on -/
theorem passE {X : Cx} {E : XK} (tk : Takes X fun cls d _ H => E cls d H) : Passes (L2.CX X.prog X.w) X E := passes_call tk fun _ _ _ _ h => h
section
variable {P : Program} {w : World} {K : PySem.W.Frag} {mg : Str → Option Value} {base h : Heap} (T : Tp K mg w h)
include T
theorem ok_told_heads (TB : ∀ q ∈ tf, TabB base mg (He.cT K q).1 (He.cT K q).2) (N : Ne P K) : FnR P w K mg base (L2.CX P w) 4 (He.ga K "told_heads") (spTold P w K) := by
  refine fnR_of T.F_told_heads sc_told_heads (fun _ _ _ _ _ _ us hl => match us, hl with | [_, _], _ => rfl) (fun vs H Q E h => ?_) (fun cdv AA outer s H vs Q E hr h => ?_)
  · obtain ⟨p, A, L, S, n, i, t, rfl, _⟩ := h
    rfl
  obtain ⟨p, A, L, S, n, i, t, rfl, st, hT, hL1, h16, hi, hn, k, kb⟩ := h
  refine ⟨_, (pss_cons (ps_if (pt_cmpR op_gt (pe_methR (pv 0) T.cl_Trees T.m_Trees_many_parts (ok_Trees_many_parts T TB) (hr.mono (by decide)) pass0 (pa_cons (pv 1) pa_nil)) (pe_gint T.i_MOST_PATTERNS) (nomark _)) (pss_one (ps_raise rfl (takes_of rfl rfl rfl rfl) (pmk_ne N hr T.z_super rfl T.m_TooMany (pa_cons (pe_gint T.i_MOST_PATTERNS) pa_nil)))) pss_nil)
      (pss_cons (ps_set (i := 2) sc_told_heads.nd rfl (Or.inl rfl) (pe_lst pa_nil))
      (pss_cons (ps_for (passes_of rfl) rfl (pi_list (pe_methR (pv 0) T.cl_Trees T.m_Trees_parts (ok_Trees_parts T) (hr.mono (by decide)) pass0 (pa_cons (pv 1) pa_nil))) (pg_name (i := 3) sc_told_heads.nd rfl (Or.inl rfl)) (pss_one (ps_expr (pe_bm PySem.F.plainAttrs_list PySem.F.slot_list_append PySem.F.type_list_append mt_append (pv 2) (pa_cons (pe_join pe_str (pe_lc (own := [("sign", 4)]) rfl sc_told_heads.nd (pi_list (pv 3)) (blkOk_by (N := ["trees", "tree", "found", "signs", "sign"]) (sc := defScope s_told_heads) (by decide +kernel)) (fun _ _ _ _ _ => (pg_name (i := 4) sc_told_heads.nd rfl (Or.inl rfl))) (fun _ _ _ _ _ => pts_nil) (fun _ _ _ _ _ => (pe_ifExp (pt_cmpR op_isN (pv 4) pe_non (nomark _)) (pe_gstr T.i_ANY) (pe_ix ix_str (pe_gstr T.i_SIGNS) (pv 4) (fun _ _ => rfl)))))) pa_nil)))))
      (pss_one (ps_ret (pe_callTy call_tuple_of (by rfl) T.z_tuple (by decide +kernel) (pa_cons (pv 2) pa_nil))))))), ?_⟩
  have C := T.cl_Trees
  have hcap : cap = 8000000 := rfl
  refine ⟨_, rfl, p, _, _, rfl, st.ob, no_many_parts _ _, _, rfl, p, A, L, S, n, i, t, rfl, st, hT, hi, hn, fun H1 K1 hT1 => ?_⟩
  refine ⟨_, _, rfl, rfl, _, rfl, ?_⟩
  refine ite2 (fun c => ?_) (fun c => ?_)
  · exact ⟨_, rfl, fun d hd => kb (by have := of_decide_eq_true c; omega) d _ upd_same⟩
  have hnp : BT.np t ≤ 4000 := by have := of_decide_eq_false (Bool.eq_false_iff.mpr c); omega
  have st1 := st.keepX K1
  refine ⟨(by show 0 ≤ sizeLine; decide), fun fl hfl => ?_⟩
  have hflX := NewX.of K1 hfl
  have K2 : KeepX [] H (upd H1 fl (.lst [])) := K1.trans (KeepX.new hfl _)
  have hT2 := tabs_new hT1 hfl (.lst [])
  have st2 := st1.new hfl (.lst [])
  have hf2 : (upd H1 fl (.lst [])) fl = some (.lst []) := upd_same
  generalize upd H1 fl (.lst []) = H2 at K2 hT2 st2 hf2 ⊢
  refine ⟨_, rfl, p, _, _, rfl, st2.ob, no_parts _ _, _, rfl, p, A, L, S, n, i, t, rfl, st2, h16, hi, fun a rs H3 K3 ha0 ha3 hp => ?_⟩
  have hf3 := K3 fl _ hf2 (by simp)
  have hT3 := tabs_keep hT2 K3
  have K03 := K2.trans K3.x
  have hfa : fl ≠ a := ne_of_none hf2 ha0
  have hlen := hp.len
  have hwid : ∀ q ∈ BT.pats L 0 t, q.length = L := BT.pats_width L 0 t
  have hpl : (BT.pats L 0 t).length = BT.np t := BT.pats_len L 0 t (by omega) (st.ok.g hi) (Nat.zero_le _)
  refine ⟨a, rfl, ⟨_, SqL.of ha3⟩, for_list (K := K) (a := a) (xs := rs) (fun j σ H' => ∃ v3 v4 : Option V, σ = [some (.ref p), some (.int i), some (.ref fl), v3, v4] ∧ KeepX [] H H' ∧ Tabs (TT K) H' ∧ H' a = some (.lst rs) ∧ Parts L t H' rs ∧ H' fl = some (.lst (txts ((BT.pats L 0 t).take j))))
    ⟨none, none, rfl, K03, hT3, ha3, hp, hf3⟩ (fun j σ H' _ ⟨_, _, _, _, _, e, _⟩ => SqL.of e) ?_ ?_⟩
  · rintro j x σ H4 hx ⟨v3, v4, rfl, K4, hT4, ha4, hp4, hf4⟩
    have hj : j < (BT.pats L 0 t).length := by rw [← hp4.len]; exact ix_lt hx
    obtain ⟨q, hq⟩ : ∃ q, (BT.pats L 0 t)[j]? = some q := ⟨_, List.getElem?_eq_getElem hj⟩
    obtain ⟨c4, hc4, hl4⟩ := hp4.at_ j q hq
    rw [hx] at hc4
    cases hc4
    have hqL := hwid q (List.mem_of_getElem? hq)
    have hqn : q ≠ [] := fun e => by rw [e] at hqL; simp at hqL; omega
    refine ⟨_, rfl, .inl ⟨rfl, _, SqL.of hf4⟩, ⟨_, rfl⟩, ?_⟩
    refine ⟨_, rfl, c4, rfl, ⟨_, SqL.of hl4⟩, fun D hD => ?_⟩
    refine lc_list (K := K) (a := c4) (xs := q.map sgV) (fun m H' => H' = upd H4 D (.lst ((q.take m).map fun o => V.str ⟨#[chC 42 o]⟩))) rfl (fun m H' _ e => by rw [e]; exact SqL.of (by rw [upd_ne (ne_of_none hl4 hD)]; exact hl4)) ?_ ?_
    · rintro m y H' hy rfl
      obtain ⟨o, ho, rfl⟩ : ∃ o, q[m]? = some o ∧ y = sgV o := by
        rw [List.getElem?_map] at hy
        cases e : q[m]? with
        | none => rw [e] at hy; cases hy
        | some o => rw [e] at hy; exact ⟨o, rfl, (Option.some.inj hy).symm⟩
      have hm := ix_lt ho
      have fin : ∀ z : Str, z = ⟨#[chC 42 o]⟩ → ∃ acc, (upd H4 D (.lst ((q.take m).map fun o => V.str ⟨#[chC 42 o]⟩))) D = some (.lst acc) ∧ acc.length < sizeLine ∧ upd (upd H4 D (.lst ((q.take m).map fun o => V.str ⟨#[chC 42 o]⟩))) D (.lst (acc ++ [V.str z])) = upd H4 D (.lst ((q.take (m + 1)).map fun o => V.str ⟨#[chC 42 o]⟩)) := fun z hz =>
        ⟨_, upd_same, by rw [List.length_map, List.length_take]; exact small1000 (by omega), by rw [upd_upd, take_more ho, List.map_append, hz]; rfl⟩
      refine ⟨rfl, _, rfl, rfl, _, rfl, ?_⟩
      cases o with
      | none =>
        refine iteT' rfl ?_
        exact fin _ rfl
      | some b =>
        refine iteF' rfl ?_
        refine ⟨_, rfl, _, _, (48 + bnum b), rfl, rfl, by decide, ?_, ?_⟩
        · rw [cps01]; cases b <;> rfl
        · exact fin _ (by cases b <;> rfl)
    · rintro H' rfl
      rw [List.length_map, List.take_length]
      have hsum : ∀ q : BT.Pat, ((q.map fun o => (⟨#[chC 42 o]⟩ : Str)).map (·.length)).sum = q.length := by
        intro q
        induction q with
        | nil => rfl
        | cons o q ih => rw [List.map_cons, List.map_cons, List.sum_cons, ih, List.length_cons]; show 1 + _ = _; omega
      refine ⟨_, D, q.map fun o => (⟨#[chC 42 o]⟩ : Str), rfl, rfl, .inl (SqL.of (by rw [upd_same, List.map_map]; rfl)), ?_, ?_⟩
      · rw [hsum, List.length_map]
        have e : (Str.ofString "").length = 0 := by decide +kernel
        rw [e]
        omega
      rw [join_txt]
      have hf5 : (upd H4 D (.lst (q.map fun o => V.str ⟨#[chC 42 o]⟩))) fl = some (.lst (txts ((BT.pats L 0 t).take j))) := by rw [upd_ne (ne_of_none hf4 hD)]; exact hf4
      have ha5 : (upd H4 D (.lst (q.map fun o => V.str ⟨#[chC 42 o]⟩))) a = some (.lst rs) := by rw [upd_ne (ne_of_none ha4 hD)]; exact ha4
      have K5 := K4.trans (KeepX.new hD (.lst (q.map fun o => V.str ⟨#[chC 42 o]⟩)))
      have hT5 := tabs_new hT4 hD (.lst (q.map fun o => V.str ⟨#[chC 42 o]⟩))
      have hp5 : Parts L t (upd H4 D (.lst (q.map fun o => V.str ⟨#[chC 42 o]⟩))) rs := ⟨hp4.len, fun j' q' h' => let ⟨c', e1, e2⟩ := hp4.at_ j' q' h'; ⟨c', e1, by rw [upd_ne (ne_of_none e2 hD)]; exact e2⟩⟩
      generalize upd H4 D (.lst (q.map fun o => V.str ⟨#[chC 42 o]⟩)) = H5 at hf5 ha5 K5 hT5 hp5 ⊢
      refine ⟨fl, _, _, rfl, rfl, hf5, by rw [List.length_map, List.length_take]; exact small8 (by omega), ?_⟩
      refine ⟨_, _, rfl, keepx_putX K5 hflX _, tabs_lst hT5 hf5 _, by rw [upd_ne (Ne.symm hfa)]; exact ha5, ⟨hp5.len, fun j' q' h' => ?_⟩, ?_⟩
      · obtain ⟨c', e1, e2⟩ := hp5.at_ j' q' h'
        refine ⟨c', e1, ?_⟩
        have hne : c' ≠ fl := fun z => by
          rw [z, hf5] at e2
          have hq' := hwid q' (List.mem_of_getElem? h')
          have hqn' : q' ≠ [] := fun e => by rw [e] at hq'; simp at hq'; omega
          exact sg_ne_txts hqn' (by injection e2 with e2; injection e2 with e2; exact e2.symm)
        rw [upd_ne hne]
        exact e2
      · rw [upd_same, take_more hq]
        exact congrArg (fun z => some (HO.lst z)) (List.map_append (f := fun q => V.str (txt q)) (l₁ := (BT.pats L 0 t).take j) (l₂ := [q])).symm
  · rintro σ H4 ⟨v3, v4, rfl, K4, hT4, ha4, hp4, hf4⟩
    rw [hp4.len, List.take_length] at hf4
    refine ⟨_, rfl, fl, _, rfl, .inl ⟨SqL.of hf4, fun b hb => ?_⟩⟩
    exact k hnp b _ (K4.trans (KeepX.new hb _)) (tabs_new hT4 hb _) (NewX.of K4 hb) upd_same
end
end Wv

end
section
set_option maxRecDepth 100000
set_option maxHeartbeats 8000000
/-! heads: is_heads_of, the checks, plain. Printed from K73U4.tpl by tm.py. -/
namespace Wv
open PySem PySem.Spec PyProof.Rows L2 LamX StX
theorem pickN {A B : Hp → Prop} {H : Hp} (h : B H) : (fun (c : Bool) (H1 : Hp) => (fun (b : Bool) (H2 : Hp) => if b = true then A H2 else B H2) (!c) H1) true H := h
theorem passF {P : Program} {w : World} {X : Cx} : Passes (L2.CX P w) X (fun _ _ _ => False) := fun _ _ _ _ _ _ _ ⟨_, _, _, _, _, _, _, _, _, _, _, _, h⟩ => h.elim
theorem pcost_rcs {L : Nat} : ∀ {qs : List BT.Pat}, (∀ q ∈ qs, q.length = L) → qs.length * L + rcs qs = BT.pcost qs
  | [], _ => by simp [rcs, BT.pcost]
  | q :: qs, h => by
    have ih := pcost_rcs (L := L) (qs := qs) fun r hr => h r (List.mem_cons_of_mem _ hr)
    have hq := h q List.mem_cons_self
    have e : rcs (q :: qs) = BT.rc q + rcs qs := by simp [rcs]
    rw [e, List.length_cons, Nat.add_mul, Nat.one_mul]
    have e2 : BT.pcost (q :: qs) = q.length + BT.rc q + BT.pcost qs := rfl
    rw [e2, hq]
    omega
/-- heads of a tree, in the heap -/
structure Hd (H : Hp) (a : Addr) (L : Nat) (t : BT) : Prop where
  at_ : H a = some (.tup (txts (BT.pats L 0 t)))
  good : BT.Good L t
  few : BT.np t ≤ 4000
theorem Hd.keep {H H' : Hp} {a : Addr} {L : Nat} {t : BT} (h : Hd H a L t) (k : KeepX [] H H') : Hd H' a L t := ⟨k.tup h.at_ (by simp), h.good, h.few⟩
theorem Hd.len {H : Hp} {a : Addr} {L : Nat} {t : BT} (h : Hd H a L t) : (BT.pats L 0 t).length = BT.np t := BT.pats_len L 0 t (by omega) h.good (Nat.zero_le _)
theorem Hd.cost {H : Hp} {a : Addr} {L : Nat} {t : BT} (h : Hd H a L t) (h16 : L ≤ 16) : (BT.pats L 0 t).length * L + rcs (BT.pats L 0 t) ≤ 2356224 := by
  rw [pcost_rcs (BT.pats_width L 0 t)]
  exact BT.pcost_pats h16 (by rw [h.len]; exact h.few)
/-- behind Trees(width) -/
theorem made_new {H H' : Hp} {p dx : Addr} {A : TA} {o1 o2 : HO} (hp : H p = none) (hd : H dx = none) (hne : dx ≠ p) (k : Keeps [p] (upd (upd H dx o1) p o2) H') (fr : ∀ b ∈ fps A, (upd (upd H dx o1) p o2) b = none) : Keeps [] H H' ∧ ∀ b ∈ fps A, H b = none := by
  refine ⟨fun b u e _ => ?_, fun b hb => ?_⟩
  · have h1 : b ≠ p := fun z => by rw [z, hp] at e; cases e
    have h2 : b ≠ dx := fun z => by rw [z, hd] at e; cases e
    exact k b u (by rw [upd_ne h1, upd_ne h2]; exact e) (by simpa using h1)
  · have e := fr b hb
    have h1 : b ≠ p := fun z => by rw [z, upd_same] at e; cases e
    have h2 : b ≠ dx := fun z => by rw [upd_ne h1, z, upd_same] at e; cases e
    rw [upd_ne h1, upd_ne h2] at e
    exact e
theorem keeps_fresh {fp : List Addr} {H H1 H2 : Hp} (k : Keeps [] H H1) (k2 : Keeps fp H1 H2) (fr : ∀ b ∈ fp, H b = none) : Keeps [] H H2 := fun b u e _ => k2 b u (k b u e (by simp)) fun hb => by rw [fr b hb] at e; cases e
theorem txts_str (qs : List BT.Pat) : txts qs = (qs.map txt).map V.str := by rw [List.map_map]; rfl
theorem strOk_txts (qs : List BT.Pat) : ∀ x ∈ qs.map txt, PyData.strOk x = true := fun x hx => by
  obtain ⟨q, _, rfl⟩ := List.mem_map.mp hx
  exact strOk_txtC (by decide) q
theorem NewX.back {H H' : Hp} {a : Addr} (h : NewX H' a) (k : KeepX [] H H') : NewX H a := fun o e => by
  by_cases z : ∃ ps, o = .tbl ps
  · exact z
  · exact h o (k a o e (by simp) fun ps q => z ⟨ps, q⟩)
theorem Tells.at {K : PySem.W.Frag} {L : Nat} {t : BT} {H H' : Hp} {Q : VK} {E : XK} (h : Tells K L t H Q E) (k : KeepX [] H H') : Tells K L t H' Q E := ⟨fun hn a H2 K2 hT hx ha => h.1 hn a H2 (k.trans K2) hT (hx.back k) ha, h.2⟩
def spHeadsOf (K : PySem.W.Frag) : Sp := fun vs H Q _ => ∃ (L : Nat) (a : Addr) (t : BT), vs = [.int (L : Int), .ref a] ∧ 1 ≤ L ∧ L ≤ 16 ∧ Tabs (TT K) H ∧ Hd H a L t ∧ ∀ H', KeepX [] H H' → Tabs (TT K) H' → Q (.bl true) H'
def spChkH (K : PySem.W.Frag) : Sp := fun vs H Q _ => ∃ (L : Nat) (a : Addr) (t : BT), vs = [.int (L : Int), .ref a] ∧ 1 ≤ L ∧ L ≤ 16 ∧ Tabs (TT K) H ∧ Hd H a L t ∧ ∀ H', KeepX [] H H' → Tabs (TT K) H' → Q .non H'
def spChkT (g : Str) : Sp := fun vs H Q _ => ∃ (n : Nat) (z : Str), vs = [.int (n : Int), .str z] ∧ z.length = n ∧ n ≤ 1000 ∧ (∀ c ∈ z.cps.toList, c ∈ g.cps.toList) ∧ ∀ H', Keeps [] H H' → Q .non H'
def spPlain (K : PySem.W.Frag) : Sp := fun vs H Q E => ∃ (L : Nat) (a : Addr) (qs : List BT.Pat), vs = [.int (L : Int), .ref a] ∧ 1 ≤ L ∧ L ≤ 16 ∧ Tabs (TT K) H ∧ H a = some (.tup (txts qs)) ∧ (∀ q ∈ qs, q.length = L) ∧ qs.length ≤ 4000 ∧ BT.pcost qs ≤ cap ∧ Tells K L (BT.ofPats L qs) H Q E
section
variable {P : Program} {w : World} {K : PySem.W.Frag} {mg : Str → Option Value} {base h : Heap} (T : Tp K mg w h)
include T
theorem ok_is_heads_of (TB : ∀ q ∈ tf, TabB base mg (He.cT K q).1 (He.cT K q).2) (N : Ne P K) : FnR P w K mg base CX0 22 (He.ga K "is_heads_of") (spHeadsOf K) := by
  refine fnR0_of T.F_is_heads_of sc_is_heads_of (fun _ _ _ _ _ _ us hl => match us, hl with | [_, _], _ => rfl) (fun vs H Q E h => ?_) (fun cdv AA outer s H vs Q E hr h => ?_)
  · obtain ⟨L, a, t, rfl, _⟩ := h
    rfl
  obtain ⟨L, a, t, rfl, h1, h16, hT, hd, k⟩ := h
  have hu64 := hr.units
  refine ⟨_, (pss_cons (ps_if (pt_not (pt_val (pe_callR (ok_are_patterns T) (hr.mono (by decide)) T.k_are_patterns rfl T.m_are_patterns pass0 (pa_cons (pv 0) (pa_cons (pv 1) pa_nil))))) (pss_one (ps_ret pe_bl)) pss_nil)
      (pss_cons (ps_set (i := 2) sc_is_heads_of.nd rfl (Or.inl rfl) (pe_makeR T.mk_Trees (ok_Trees_initI T) (hr.mono (by decide)) rfl T.m_Trees pass0 (pa_cons (pv 0) pa_nil)))
      (pss_cons (ps_set (i := 3) sc_is_heads_of.nd rfl (Or.inl rfl) (pe_callR (ok_tree_of T) (hr.mono (by decide)) T.k_tree_of rfl T.m_tree_of pass0 (pa_cons (pv 2) (pa_cons (pv 1) pa_nil))))
      (pss_one (ps_ret (pe_and (pe_cmpR op_eq (pe_methR (pv 2) T.cl_Trees T.m_Trees_many_parts (ok_Trees_many_parts T TB) (hr.mono (by decide)) pass0 (pa_cons (pv 3) pa_nil)) (pe_callB call_len_seq (by rfl) T.z_len PySem.boot_len (pa_cons (pv 1) pa_nil)) (nomark _)) (pe_one (pe_cmpR (op_eqTS hu64) (pe_callR (ok_told_heads T TB N) (hr.mono (by decide)) T.k_told_heads rfl T.m_told_heads (passF (P := P) (w := w)) (pa_cons (pv 2) (pa_cons (pv 3) pa_nil))) (pv 1) (nomark _))))))))), ?_⟩
  have C := T.cl_Trees
  have hcap : cap = 8000000 := rfl
  have hw := BT.pats_width L 0 t
  have hlen := hd.len
  have hfew := hd.few
  refine ⟨_, rfl, _, rfl, L, a, BT.pats L 0 t, rfl, hd.at_, hw, by omega, by omega, fun H1 K1 => ⟨true, rfl, ?_⟩⟩
  refine pickN ?_
  refine ⟨_, rfl, fun p dx hp hdx hne => ⟨p, dx, L, rfl, upd_same, fun A H2 _ st2 K2 fr2 => ⟨rfl, ?_⟩⟩⟩
  obtain ⟨K12, fr⟩ := made_new hp hdx hne K2 fr2
  have K02 := K1.trans K12
  have hd2 := hd.keep K02.x
  refine ⟨_, rfl, _, rfl, p, a, A, L, Sto.new, 0, BT.pats L 0 t, rfl, st2, h16, hd2.at_, hw, by omega, by have := hd.cost h16; omega, fun i S3 H3 st3 E3 K3 hi3 => ?_⟩
  rw [BT.ofPats_pats hd.good] at hi3
  have K03 : Keeps [] H H3 := keeps_fresh K02 K3 fun b hb => (K1.none (fr b hb) (by simp))
  have hd3 := hd.keep K03.x
  have hn3 : 0 + ((BT.pats L 0 t).length * L + rcs (BT.pats L 0 t)) ≤ cap := by have := hd.cost h16; omega
  refine ⟨_, rfl, p, _, _, rfl, st3.ob, no_many_parts _ _, _, rfl, p, A, L, S3, _, i, t, rfl, st3, tabs_keep hT K03, hi3, hn3, fun H4 K4 hT4 => ?_⟩
  have K04 := K03.x.trans K4
  have hd4 := hd.keep K04
  have st4 := st3.keepX K4
  refine ⟨_, rfl, a, _, rfl, .inr (SqT.of hd4.at_), rfl, true, by rw [List.length_map, hlen]; simp, ?_⟩
  refine iteT' rfl ?_
  refine ⟨_, rfl, _, rfl, p, A, L, S3, _, i, t, rfl, st4, hT4, h1, h16, hi3, hn3, fun _ b H5 K5 hT5 _ hb => ?_, fun z => absurd z (by omega)⟩
  have hd5 := hd4.keep K5
  refine ⟨_, rfl, b, a, (BT.pats L 0 t).map txt, (BT.pats L 0 t).map txt, rfl, rfl, SqT.of (by rw [hb, txts_str]), SqT.of (by rw [hd5.at_, txts_str]), strOk_txts _, strOk_txts _, ?_⟩
  rw [decide_eq_true rfl]
  exact k H5 (K04.trans K5) hT5
theorem ok_check_heads (TB : ∀ q ∈ tf, TabB base mg (He.cT K q).1 (He.cT K q).2) (N : Ne P K) : FnR P w K mg base CX0 23 (He.ga K "check_heads") (spChkH K) := by
  refine fnR0_of T.F_check_heads sc_check_heads (fun _ _ _ _ _ _ us hl => match us, hl with | [_, _], _ => rfl) (fun vs H Q E h => ?_) (fun cdv AA outer s H vs Q E hr h => ?_)
  · obtain ⟨L, a, t, rfl, _⟩ := h
    rfl
  obtain ⟨L, a, t, rfl, h1, h16, hT, hd, k⟩ := h
  refine ⟨_, (pss_cons (ps_expr (pe_callR (ok_check_width T) (hr.mono (by decide)) T.k_check_width rfl T.m_check_width pass0 (pa_cons (pv 0) pa_nil)))
      (pss_one (ps_if (pt_not (pt_val (pe_callR (ok_is_heads_of T TB N) (hr.mono (by decide)) T.k_is_heads_of rfl T.m_is_heads_of pass0 (pa_cons (pv 0) (pa_cons (pv 1) pa_nil))))) (pss_one ps_never) pss_nil))), ?_⟩
  refine ⟨_, rfl, L, rfl, h1, h16, ?_⟩
  refine ⟨_, rfl, _, rfl, L, a, t, rfl, h1, h16, hT, hd, fun H1 K1 hT1 => ⟨true, rfl, ?_⟩⟩
  exact pickN (k H1 K1 hT1)
theorem ok_is_heads (TB : ∀ q ∈ tf, TabB base mg (He.cT K q).1 (He.cT K q).2) (N : Ne P K) : FnR P w K mg base CX0 23 (He.ga K "is_heads") (spHeadsOf K) := by
  refine fnR0_of T.F_is_heads sc_is_heads (fun _ _ _ _ _ _ us hl => match us, hl with | [_, _], _ => rfl) (fun vs H Q E h => ?_) (fun cdv AA outer s H vs Q E hr h => ?_)
  · obtain ⟨L, a, t, rfl, _⟩ := h
    rfl
  obtain ⟨L, a, t, rfl, h1, h16, hT, hd, k⟩ := h
  refine ⟨_, (pss_cons (ps_expr (pe_callR (ok_check_width T) (hr.mono (by decide)) T.k_check_width rfl T.m_check_width pass0 (pa_cons (pv 0) pa_nil)))
      (pss_one (ps_ret (pe_callR (ok_is_heads_of T TB N) (hr.mono (by decide)) T.k_is_heads_of rfl T.m_is_heads_of pass0 (pa_cons (pv 0) (pa_cons (pv 1) pa_nil)))))), ?_⟩
  refine ⟨_, rfl, L, rfl, h1, h16, ?_⟩
  exact ⟨_, rfl, _, rfl, L, a, t, rfl, h1, h16, hT, hd, k⟩
theorem ok_check_head : FnR P w K mg base CX0 3 (He.ga K "check_head") (spChkT "01") := by
  refine fnR0_of T.F_check_head sc_check_head (fun _ _ _ _ _ _ us hl => match us, hl with | [_, _], _ => rfl) (fun vs H Q E h => ?_) (fun cdv AA outer s H vs Q E hr h => ?_)
  · obtain ⟨n, z, rfl, _⟩ := h
    rfl
  obtain ⟨n, z, rfl, hz, hn, hin, k⟩ := h
  refine ⟨_, (pss_one (ps_if (pt_not (pt_val (pe_callR (ok_is_head_of T) (hr.mono (by decide)) T.k_is_head_of rfl T.m_is_head_of pass0 (pa_cons (pv 0) (pa_cons (pv 1) pa_nil))))) (pss_one ps_never) pss_nil)), ?_⟩
  exact ⟨_, rfl, _, rfl, n, z, rfl, hz, hn, hin, fun H1 K1 => ⟨true, rfl, pickN (k H1 K1)⟩⟩
theorem ok_check_mask : FnR P w K mg base CX0 3 (He.ga K "check_mask") (spChkT "01=") := by
  refine fnR0_of T.F_check_mask sc_check_mask (fun _ _ _ _ _ _ us hl => match us, hl with | [_, _], _ => rfl) (fun vs H Q E h => ?_) (fun cdv AA outer s H vs Q E hr h => ?_)
  · obtain ⟨n, z, rfl, _⟩ := h
    rfl
  obtain ⟨n, z, rfl, hz, hn, hin, k⟩ := h
  refine ⟨_, (pss_one (ps_if (pt_not (pt_val (pe_callR (ok_is_mask_of T) (hr.mono (by decide)) T.k_is_mask_of rfl T.m_is_mask_of pass0 (pa_cons (pv 0) (pa_cons (pv 1) pa_nil))))) (pss_one ps_never) pss_nil)), ?_⟩
  exact ⟨_, rfl, _, rfl, n, z, rfl, hz, hn, hin, fun H1 K1 => ⟨true, rfl, pickN (k H1 K1)⟩⟩
theorem ok_plain (TB : ∀ q ∈ tf, TabB base mg (He.cT K q).1 (He.cT K q).2) (N : Ne P K) : FnR P w K mg base (L2.CX P w) 22 (He.ga K "plain") (spPlain K) := by
  refine fnR_of T.F_plain sc_plain (fun _ _ _ _ _ _ us hl => match us, hl with | [_, _], _ => rfl) (fun vs H Q E h => ?_) (fun cdv AA outer s H vs Q E hr h => ?_)
  · obtain ⟨L, a, qs, rfl, _⟩ := h
    rfl
  obtain ⟨L, a, qs, rfl, h1, h16, hT, ha, hw, hl, hc, kt, kb⟩ := h
  refine ⟨_, (pss_cons (ps_expr (pe_callR (ok_check_width T) (hr.mono (by decide)) T.k_check_width rfl T.m_check_width pass0 (pa_cons (pv 0) pa_nil)))
      (pss_cons (ps_if (pt_not (pt_val (pe_callR (ok_are_patterns T) (hr.mono (by decide)) T.k_are_patterns rfl T.m_are_patterns pass0 (pa_cons (pv 0) (pa_cons (pv 1) pa_nil))))) (pss_one ps_never) pss_nil)
      (pss_cons (ps_set (i := 2) sc_plain.nd rfl (Or.inl rfl) (pe_makeR T.mk_Trees (ok_Trees_initI T) (hr.mono (by decide)) rfl T.m_Trees pass0 (pa_cons (pv 0) pa_nil)))
      (pss_one (ps_ret (pe_callR (ok_told_heads T TB N) (hr.mono (by decide)) T.k_told_heads rfl T.m_told_heads (passE (takes_of rfl rfl rfl rfl)) (pa_cons (pv 2) (pa_cons (pe_callR (ok_tree_of T) (hr.mono (by decide)) T.k_tree_of rfl T.m_tree_of pass0 (pa_cons (pv 2) (pa_cons (pv 1) pa_nil))) pa_nil)))))))), ?_⟩
  have hcap : cap = 8000000 := rfl
  have hcost : 0 + (qs.length * L + rcs qs) ≤ cap := by rw [pcost_rcs hw]; omega
  refine ⟨_, rfl, L, rfl, h1, h16, ?_⟩
  refine ⟨_, rfl, _, rfl, L, a, qs, rfl, ha, hw, by omega, hl, fun H1 K1 => ⟨true, rfl, ?_⟩⟩
  refine pickN ?_
  refine ⟨_, rfl, fun p dx hp hdx hne => ⟨p, dx, L, rfl, upd_same, fun A H2 _ st2 K2 fr2 => ⟨rfl, ?_⟩⟩⟩
  obtain ⟨K12, fr⟩ := made_new hp hdx hne K2 fr2
  have K02 := K1.trans K12
  refine ⟨_, rfl, _, rfl, _, rfl, p, a, A, L, Sto.new, 0, qs, rfl, st2, h16, K02.tup ha (by simp), hw, hl, hcost, fun i S3 H3 st3 E3 K3 hi3 => ?_⟩
  have K03 : Keeps [] H H3 := keeps_fresh K02 K3 fun b hb => (K1.none (fr b hb) (by simp))
  exact ⟨p, A, L, S3, _, i, _, rfl, st3, tabs_keep hT K03, h1, h16, hi3, hcost, Tells.at ⟨kt, kb⟩ K03.x⟩
end
end Wv

end
section
set_option maxRecDepth 100000
set_option maxHeartbeats 8000000
/-! heads: both, either, others, how_many, put_into, put_before. Printed from K73U5.tpl by tm.py; the template by mk5.py. -/
namespace Wv
open PySem PySem.Spec PyProof.Rows L2 LamX StX
def spOp2 (K : PySem.W.Frag) (op : Nat → BT → BT → BT) : Sp := fun vs H Q E => ∃ (L : Nat) (a b : Addr) (t u : BT), vs = [.int (L : Int), .ref a, .ref b] ∧ 1 ≤ L ∧ L ≤ 16 ∧ Tabs (TT K) H ∧ Hd H a L t ∧ Hd H b L u ∧ Tells K L (op L t u) H Q E
def spOp1 (K : PySem.W.Frag) (op : Nat → BT → BT) : Sp := fun vs H Q E => ∃ (L : Nat) (a : Addr) (t : BT), vs = [.int (L : Int), .ref a] ∧ 1 ≤ L ∧ L ≤ 16 ∧ Tabs (TT K) H ∧ Hd H a L t ∧ Tells K L (op L t) H Q E
def spHow (K : PySem.W.Frag) : Sp := fun vs H Q _ => ∃ (L : Nat) (a : Addr) (t : BT), vs = [.int (L : Int), .ref a] ∧ 1 ≤ L ∧ L ≤ 16 ∧ Tabs (TT K) H ∧ Hd H a L t ∧ ∀ H', KeepX [] H H' → Tabs (TT K) H' → Q (.int (BT.many L t : Nat)) H'
def spMask (K : PySem.W.Frag) (op : Nat → BT → BT.Pat → BT) : Sp := fun vs H Q E => ∃ (L : Nat) (a : Addr) (t : BT) (m : BT.Pat), vs = [.int (L : Int), .ref a, .str (txtC 61 m)] ∧ 1 ≤ L ∧ L ≤ 16 ∧ Tabs (TT K) H ∧ Hd H a L t ∧ m.length = L ∧ Tells K L (op L t m) H Q E
theorem mask_in {q : BT.Pat} {c : Nat} (h : c ∈ (txtC 61 q).cps.toList) : c ∈ (Str.ofString "01=").cps.toList := by
  have e : (Str.ofString "01=").cps.toList = [48, 49, 61] := by decide +kernel
  rw [e]
  obtain ⟨o, _, rfl⟩ := List.mem_map.mp (show c ∈ q.map (chC 61) from h)
  match o with
  | none => decide
  | some false => decide
  | some true => decide
section
variable {P : Program} {w : World} {K : PySem.W.Frag} {mg : Str → Option Value} {base h : Heap} (T : Tp K mg w h)
include T
theorem ok_both (TB : ∀ q ∈ tf, TabB base mg (He.cT K q).1 (He.cT K q).2) (N : Ne P K) : FnR P w K mg base (L2.CX P w) 24 (He.ga K "both") (spOp2 K BT.conj) := by
  refine fnR_of T.F_both sc_both (fun _ _ _ _ _ _ us hl => match us, hl with | [_, _, _], _ => rfl) (fun vs H Q E h => ?_) (fun cdv AA outer s H vs Q E hr h => ?_)
  · obtain ⟨L, a, b, t, u, rfl, _⟩ := h
    rfl
  obtain ⟨L, a, b, t, u, rfl, h1, h16, hT, hda, hdb, tel⟩ := h
  refine ⟨_, (pss_cons (ps_expr (pe_callR (ok_check_heads T TB N) (hr.mono (by decide)) T.k_check_heads rfl T.m_check_heads pass0 (pa_cons (pv 0) (pa_cons (pv 1) pa_nil))))
      (pss_cons (ps_expr (pe_callR (ok_check_heads T TB N) (hr.mono (by decide)) T.k_check_heads rfl T.m_check_heads pass0 (pa_cons (pv 0) (pa_cons (pv 2) pa_nil))))
      (pss_cons (ps_set (i := 3) sc_both.nd rfl (Or.inl rfl) (pe_makeR T.mk_Trees (ok_Trees_initI T) (hr.mono (by decide)) rfl T.m_Trees pass0 (pa_cons (pv 0) pa_nil)))
      (pss_one (ps_ret (pe_callR (ok_told_heads T TB N) (hr.mono (by decide)) T.k_told_heads rfl T.m_told_heads (passE (takes_of rfl rfl rfl rfl)) (pa_cons (pv 3) (pa_cons (pe_methR (pv 3) T.cl_Trees T.m_Trees_both (ok_Trees_both T 17) (hr.mono (by decide)) pass0 (pa_cons (pe_callR (ok_tree_of T) (hr.mono (by decide)) T.k_tree_of rfl T.m_tree_of pass0 (pa_cons (pv 3) (pa_cons (pv 1) pa_nil))) (pa_cons (pe_callR (ok_tree_of T) (hr.mono (by decide)) T.k_tree_of rfl T.m_tree_of pass0 (pa_cons (pv 3) (pa_cons (pv 2) pa_nil))) pa_nil))) pa_nil)))))))), ?_⟩
  have hcap : cap = 8000000 := rfl
  have hca := hda.cost h16
  have hcb := hdb.cost h16
  have hcs := BT.cs_bound L 0 t u
  have h2 : 2 ^ (L + 1) ≤ 2 ^ 17 := Nat.pow_le_pow_right (by decide) (by omega)
  have h3 : (2 : Nat) ^ 17 = 131072 := by decide
  refine ⟨_, rfl, _, rfl, L, a, t, rfl, h1, h16, hT, hda, fun H1 K1 hT1 => ?_⟩
  refine ⟨_, rfl, _, rfl, L, b, u, rfl, h1, h16, hT1, hdb.keep K1, fun H2 K2 hT2 => ?_⟩
  have K02 := K1.trans K2
  refine ⟨_, rfl, fun p dx hp hdx hne => ⟨p, dx, L, rfl, upd_same, fun A H3 _ st3 K3 fr3 => ⟨rfl, ?_⟩⟩⟩
  obtain ⟨K23, fr⟩ := made_new hp hdx hne K3 fr3
  have hda3 := (hda.keep K02).keep K23.x
  refine ⟨_, rfl, _, rfl, p, _, _, rfl, st3.ob, no_both _ _, _, rfl, _, rfl, p, a, A, L, Sto.new, 0, _, rfl, st3, h16, hda3.at_, BT.pats_width L 0 t, by rw [hda.len]; exact hda.few, by omega, fun i S4 H4 st4 E4 K4 hi4 => ?_⟩
  rw [BT.ofPats_pats hda.good] at hi4
  have K24 : Keeps [] H2 H4 := keeps_fresh K23 K4 fr
  have hdb4 := (hdb.keep K02).keep K24.x
  refine ⟨_, rfl, _, rfl, p, b, A, L, S4, _, _, rfl, st4, h16, hdb4.at_, BT.pats_width L 0 u, by rw [hdb.len]; exact hdb.few, by omega, fun j S5 H5 st5 E5 K5 hj5 => ?_⟩
  rw [BT.ofPats_pats hdb.good] at hj5
  have K25 : Keeps [] H2 H5 := keeps_fresh K24 K5 fr
  refine ⟨p, A, L, S5, _, 0, i, j, t, u, rfl, st5, by omega, h16, E5 _ _ hi4, hj5, Nat.zero_le _, Nat.zero_le _, by rw [Nat.sub_zero]; omega, fun k S6 H6 st6 E6 K6 hk6 => ?_⟩
  rw [Nat.sub_zero] at st6
  have K26 : Keeps [] H2 H6 := keeps_fresh K25 K6 fr
  exact ⟨p, A, L, S6, _, k, _, rfl, st6, tabs_keep hT2 K26, h1, h16, hk6, by omega, tel.at (K02.trans K26.x)⟩
theorem ok_either (TB : ∀ q ∈ tf, TabB base mg (He.cT K q).1 (He.cT K q).2) (N : Ne P K) : FnR P w K mg base (L2.CX P w) 24 (He.ga K "either") (spOp2 K BT.disj) := by
  refine fnR_of T.F_either sc_either (fun _ _ _ _ _ _ us hl => match us, hl with | [_, _, _], _ => rfl) (fun vs H Q E h => ?_) (fun cdv AA outer s H vs Q E hr h => ?_)
  · obtain ⟨L, a, b, t, u, rfl, _⟩ := h
    rfl
  obtain ⟨L, a, b, t, u, rfl, h1, h16, hT, hda, hdb, tel⟩ := h
  refine ⟨_, (pss_cons (ps_expr (pe_callR (ok_check_heads T TB N) (hr.mono (by decide)) T.k_check_heads rfl T.m_check_heads pass0 (pa_cons (pv 0) (pa_cons (pv 1) pa_nil))))
      (pss_cons (ps_expr (pe_callR (ok_check_heads T TB N) (hr.mono (by decide)) T.k_check_heads rfl T.m_check_heads pass0 (pa_cons (pv 0) (pa_cons (pv 2) pa_nil))))
      (pss_cons (ps_set (i := 3) sc_either.nd rfl (Or.inl rfl) (pe_makeR T.mk_Trees (ok_Trees_initI T) (hr.mono (by decide)) rfl T.m_Trees pass0 (pa_cons (pv 0) pa_nil)))
      (pss_one (ps_ret (pe_callR (ok_told_heads T TB N) (hr.mono (by decide)) T.k_told_heads rfl T.m_told_heads (passE (takes_of rfl rfl rfl rfl)) (pa_cons (pv 3) (pa_cons (pe_methR (pv 3) T.cl_Trees T.m_Trees_either (ok_Trees_either T 17) (hr.mono (by decide)) pass0 (pa_cons (pe_callR (ok_tree_of T) (hr.mono (by decide)) T.k_tree_of rfl T.m_tree_of pass0 (pa_cons (pv 3) (pa_cons (pv 1) pa_nil))) (pa_cons (pe_callR (ok_tree_of T) (hr.mono (by decide)) T.k_tree_of rfl T.m_tree_of pass0 (pa_cons (pv 3) (pa_cons (pv 2) pa_nil))) pa_nil))) pa_nil)))))))), ?_⟩
  have hcap : cap = 8000000 := rfl
  have hca := hda.cost h16
  have hcb := hdb.cost h16
  have hcs := BT.cs_bound L 0 t u
  have h2 : 2 ^ (L + 1) ≤ 2 ^ 17 := Nat.pow_le_pow_right (by decide) (by omega)
  have h3 : (2 : Nat) ^ 17 = 131072 := by decide
  refine ⟨_, rfl, _, rfl, L, a, t, rfl, h1, h16, hT, hda, fun H1 K1 hT1 => ?_⟩
  refine ⟨_, rfl, _, rfl, L, b, u, rfl, h1, h16, hT1, hdb.keep K1, fun H2 K2 hT2 => ?_⟩
  have K02 := K1.trans K2
  refine ⟨_, rfl, fun p dx hp hdx hne => ⟨p, dx, L, rfl, upd_same, fun A H3 _ st3 K3 fr3 => ⟨rfl, ?_⟩⟩⟩
  obtain ⟨K23, fr⟩ := made_new hp hdx hne K3 fr3
  have hda3 := (hda.keep K02).keep K23.x
  refine ⟨_, rfl, _, rfl, p, _, _, rfl, st3.ob, no_either _ _, _, rfl, _, rfl, p, a, A, L, Sto.new, 0, _, rfl, st3, h16, hda3.at_, BT.pats_width L 0 t, by rw [hda.len]; exact hda.few, by omega, fun i S4 H4 st4 E4 K4 hi4 => ?_⟩
  rw [BT.ofPats_pats hda.good] at hi4
  have K24 : Keeps [] H2 H4 := keeps_fresh K23 K4 fr
  have hdb4 := (hdb.keep K02).keep K24.x
  refine ⟨_, rfl, _, rfl, p, b, A, L, S4, _, _, rfl, st4, h16, hdb4.at_, BT.pats_width L 0 u, by rw [hdb.len]; exact hdb.few, by omega, fun j S5 H5 st5 E5 K5 hj5 => ?_⟩
  rw [BT.ofPats_pats hdb.good] at hj5
  have K25 : Keeps [] H2 H5 := keeps_fresh K24 K5 fr
  refine ⟨p, A, L, S5, _, 0, i, j, t, u, rfl, st5, by omega, h16, E5 _ _ hi4, hj5, Nat.zero_le _, Nat.zero_le _, by rw [Nat.sub_zero]; omega, fun k S6 H6 st6 E6 K6 hk6 => ?_⟩
  rw [Nat.sub_zero] at st6
  have K26 : Keeps [] H2 H6 := keeps_fresh K25 K6 fr
  exact ⟨p, A, L, S6, _, k, _, rfl, st6, tabs_keep hT2 K26, h1, h16, hk6, by omega, tel.at (K02.trans K26.x)⟩
theorem ok_others (TB : ∀ q ∈ tf, TabB base mg (He.cT K q).1 (He.cT K q).2) (N : Ne P K) : FnR P w K mg base (L2.CX P w) 24 (He.ga K "others") (spOp1 K BT.neg) := by
  refine fnR_of T.F_others sc_others (fun _ _ _ _ _ _ us hl => match us, hl with | [_, _], _ => rfl) (fun vs H Q E h => ?_) (fun cdv AA outer s H vs Q E hr h => ?_)
  · obtain ⟨L, a, t, rfl, _⟩ := h
    rfl
  obtain ⟨L, a, t, rfl, h1, h16, hT, hda, tel⟩ := h
  refine ⟨_, (pss_cons (ps_expr (pe_callR (ok_check_heads T TB N) (hr.mono (by decide)) T.k_check_heads rfl T.m_check_heads pass0 (pa_cons (pv 0) (pa_cons (pv 1) pa_nil))))
      (pss_cons (ps_set (i := 2) sc_others.nd rfl (Or.inl rfl) (pe_makeR T.mk_Trees (ok_Trees_initI T) (hr.mono (by decide)) rfl T.m_Trees pass0 (pa_cons (pv 0) pa_nil)))
      (pss_one (ps_ret (pe_callR (ok_told_heads T TB N) (hr.mono (by decide)) T.k_told_heads rfl T.m_told_heads (passE (takes_of rfl rfl rfl rfl)) (pa_cons (pv 2) (pa_cons (pe_methR (pv 2) T.cl_Trees T.m_Trees_rest (ok_Trees_rest T 17) (hr.mono (by decide)) pass0 (pa_cons (pe_callR (ok_tree_of T) (hr.mono (by decide)) T.k_tree_of rfl T.m_tree_of pass0 (pa_cons (pv 2) (pa_cons (pv 1) pa_nil))) pa_nil)) pa_nil))))))), ?_⟩
  have hcap : cap = 8000000 := rfl
  have hca := hda.cost h16
  have h2 : 2 ^ (L - 0 + 1) ≤ 2 ^ 17 := Nat.pow_le_pow_right (by decide) (by omega)
  have h3 : (2 : Nat) ^ 17 = 131072 := by decide
  refine ⟨_, rfl, _, rfl, L, a, t, rfl, h1, h16, hT, hda, fun H2 K02 hT2 => ?_⟩
  refine ⟨_, rfl, fun p dx hp hdx hne => ⟨p, dx, L, rfl, upd_same, fun A H3 _ st3 K3 fr3 => ⟨rfl, ?_⟩⟩⟩
  obtain ⟨K23, fr⟩ := made_new hp hdx hne K3 fr3
  have hda3 := (hda.keep K02).keep K23.x
  refine ⟨_, rfl, _, rfl, p, _, _, rfl, st3.ob, no_rest _ _, _, rfl, _, rfl, p, a, A, L, Sto.new, 0, _, rfl, st3, h16, hda3.at_, BT.pats_width L 0 t, by rw [hda.len]; exact hda.few, by omega, fun i S4 H4 st4 E4 K4 hi4 => ?_⟩
  rw [BT.ofPats_pats hda.good] at hi4
  have K24 : Keeps [] H2 H4 := keeps_fresh K23 K4 fr
  refine ⟨p, A, L, S4, _, 0, i, t, rfl, st4, by omega, h16, hi4, Nat.zero_le _, by omega, fun k S6 H6 st6 E6 K6 hk6 => ?_⟩
  have K26 : Keeps [] H2 H6 := keeps_fresh K24 K6 fr
  exact ⟨p, A, L, S6, _, k, _, rfl, st6, tabs_keep hT2 K26, h1, h16, hk6, by omega, tel.at (K02.trans K26.x)⟩
theorem ok_how_many (TB : ∀ q ∈ tf, TabB base mg (He.cT K q).1 (He.cT K q).2) (N : Ne P K) : FnR P w K mg base CX0 24 (He.ga K "how_many") (spHow K) := by
  refine fnR0_of T.F_how_many sc_how_many (fun _ _ _ _ _ _ us hl => match us, hl with | [_, _], _ => rfl) (fun vs H Q E h => ?_) (fun cdv AA outer s H vs Q E hr h => ?_)
  · obtain ⟨L, a, t, rfl, _⟩ := h
    rfl
  obtain ⟨L, a, t, rfl, h1, h16, hT, hda, k⟩ := h
  refine ⟨_, (pss_cons (ps_expr (pe_callR (ok_check_heads T TB N) (hr.mono (by decide)) T.k_check_heads rfl T.m_check_heads pass0 (pa_cons (pv 0) (pa_cons (pv 1) pa_nil))))
      (pss_cons (ps_set (i := 2) sc_how_many.nd rfl (Or.inl rfl) (pe_makeR T.mk_Trees (ok_Trees_initI T) (hr.mono (by decide)) rfl T.m_Trees pass0 (pa_cons (pv 0) pa_nil)))
      (pss_one (ps_ret (pe_methR (pv 2) T.cl_Trees T.m_Trees_many (ok_Trees_many T TB) (hr.mono (by decide)) pass0 (pa_cons (pe_callR (ok_tree_of T) (hr.mono (by decide)) T.k_tree_of rfl T.m_tree_of pass0 (pa_cons (pv 2) (pa_cons (pv 1) pa_nil))) pa_nil)))))), ?_⟩
  have hcap : cap = 8000000 := rfl
  have hca := hda.cost h16
  refine ⟨_, rfl, _, rfl, L, a, t, rfl, h1, h16, hT, hda, fun H2 K02 hT2 => ?_⟩
  refine ⟨_, rfl, fun p dx hp hdx hne => ⟨p, dx, L, rfl, upd_same, fun A H3 _ st3 K3 fr3 => ⟨rfl, ?_⟩⟩⟩
  obtain ⟨K23, fr⟩ := made_new hp hdx hne K3 fr3
  have hda3 := (hda.keep K02).keep K23.x
  refine ⟨_, rfl, p, _, _, rfl, st3.ob, no_many _ _, _, rfl, _, rfl, p, a, A, L, Sto.new, 0, _, rfl, st3, h16, hda3.at_, BT.pats_width L 0 t, by rw [hda.len]; exact hda.few, by omega, fun i S4 H4 st4 E4 K4 hi4 => ?_⟩
  rw [BT.ofPats_pats hda.good] at hi4
  have K24 : Keeps [] H2 H4 := keeps_fresh K23 K4 fr
  exact ⟨p, A, L, S4, _, i, t, rfl, st4, tabs_keep hT2 K24, h16, hi4, by omega, fun H5 K5 hT5 => k H5 (K02.trans (K24.x.trans K5)) hT5⟩
theorem ok_put_into (TB : ∀ q ∈ tf, TabB base mg (He.cT K q).1 (He.cT K q).2) (N : Ne P K) : FnR P w K mg base (L2.CX P w) 37 (He.ga K "put_into") (spMask K BT.put) := by
  refine fnR_of T.F_put_into sc_put_into (fun _ _ _ _ _ _ us hl => match us, hl with | [_, _, _], _ => rfl) (fun vs H Q E h => ?_) (fun cdv AA outer s H vs Q E hr h => ?_)
  · obtain ⟨L, a, t, m, rfl, _⟩ := h
    rfl
  obtain ⟨L, a, t, m, rfl, h1, h16, hT, hda, hm, tel⟩ := h
  refine ⟨_, (pss_cons (ps_expr (pe_callR (ok_check_heads T TB N) (hr.mono (by decide)) T.k_check_heads rfl T.m_check_heads pass0 (pa_cons (pv 0) (pa_cons (pv 1) pa_nil))))
      (pss_cons (ps_expr (pe_callR (ok_check_mask T) (hr.mono (by decide)) T.k_check_mask rfl T.m_check_mask pass0 (pa_cons (pv 0) (pa_cons (pv 2) pa_nil))))
      (pss_cons (ps_set (i := 3) sc_put_into.nd rfl (Or.inl rfl) (pe_makeR T.mk_Trees (ok_Trees_initI T) (hr.mono (by decide)) rfl T.m_Trees pass0 (pa_cons (pv 0) pa_nil)))
      (pss_one (ps_ret (pe_callR (ok_told_heads T TB N) (hr.mono (by decide)) T.k_told_heads rfl T.m_told_heads (passE (takes_of rfl rfl rfl rfl)) (pa_cons (pv 3) (pa_cons (pe_methR (pv 3) T.cl_Trees T.m_Trees_put (ok_Trees_put T) (hr.mono (by decide)) pass0 (pa_cons (pe_callR (ok_tree_of T) (hr.mono (by decide)) T.k_tree_of rfl T.m_tree_of pass0 (pa_cons (pv 3) (pa_cons (pv 1) pa_nil))) (pa_cons (pe_callR (ok_signs_of T) (hr.mono (by decide)) T.k_signs_of rfl T.m_signs_of pass0 (pa_cons (pv 2) pa_nil)) pa_nil))) pa_nil)))))))), ?_⟩
  have hcap : cap = 8000000 := rfl
  have hpc : pcap = 1431100 := rfl
  have hca := hda.cost h16
  refine ⟨_, rfl, _, rfl, L, a, t, rfl, h1, h16, hT, hda, fun H1 K01 hT1 => ?_⟩
  refine ⟨_, rfl, _, rfl, L, txtC 61 m, rfl, (by rw [len_txtC]; exact hm), by omega, fun c hc => mask_in hc, fun H2 K12 => ?_⟩
  have K02 := K01.trans K12.x
  have hT2 := tabs_keep hT1 K12
  refine ⟨_, rfl, fun p dx hp hdx hne => ⟨p, dx, L, rfl, upd_same, fun A H3 _ st3 K3 fr3 => ⟨rfl, ?_⟩⟩⟩
  obtain ⟨K23, fr⟩ := made_new hp hdx hne K3 fr3
  have hda3 := (hda.keep K02).keep K23.x
  refine ⟨_, rfl, _, rfl, p, _, _, rfl, st3.ob, no_put _ _, _, rfl, _, rfl, p, a, A, L, Sto.new, 0, _, rfl, st3, h16, hda3.at_, BT.pats_width L 0 t, by rw [hda.len]; exact hda.few, by omega, fun i S4 H4 st4 E4 K4 hi4 => ?_⟩
  rw [BT.ofPats_pats hda.good] at hi4
  have K24 : Keeps [] H2 H4 := keeps_fresh K23 K4 fr
  refine ⟨_, rfl, txtC 61 m, rfl, (by rw [len_txtC]; omega), fun d H5 K45 hd4 hd5 => ?_⟩
  rw [pat_txtC (by decide) (by decide)] at hd5
  have st5 := st4.keep K45
  have K25 := K24.trans K45
  refine ⟨p, d, A, L, S4, _, i, t, m, rfl, st5, h16, hd5, hm, hi4, by omega, fun k S6 H6 st6 E6 K6 hk6 => ?_⟩
  have K26 : Keeps [] H2 H6 := keeps_fresh K25 K6 fr
  exact ⟨p, A, L, S6, _, k, _, rfl, st6, tabs_keep hT2 K26, h1, h16, hk6, by omega, tel.at (K02.trans K26.x)⟩
theorem ok_put_before (TB : ∀ q ∈ tf, TabB base mg (He.cT K q).1 (He.cT K q).2) (N : Ne P K) : FnR P w K mg base (L2.CX P w) 37 (He.ga K "put_before") (spMask K BT.putb) := by
  refine fnR_of T.F_put_before sc_put_before (fun _ _ _ _ _ _ us hl => match us, hl with | [_, _, _], _ => rfl) (fun vs H Q E h => ?_) (fun cdv AA outer s H vs Q E hr h => ?_)
  · obtain ⟨L, a, t, m, rfl, _⟩ := h
    rfl
  obtain ⟨L, a, t, m, rfl, h1, h16, hT, hda, hm, tel⟩ := h
  refine ⟨_, (pss_cons (ps_expr (pe_callR (ok_check_heads T TB N) (hr.mono (by decide)) T.k_check_heads rfl T.m_check_heads pass0 (pa_cons (pv 0) (pa_cons (pv 1) pa_nil))))
      (pss_cons (ps_expr (pe_callR (ok_check_mask T) (hr.mono (by decide)) T.k_check_mask rfl T.m_check_mask pass0 (pa_cons (pv 0) (pa_cons (pv 2) pa_nil))))
      (pss_cons (ps_set (i := 3) sc_put_before.nd rfl (Or.inl rfl) (pe_makeR T.mk_Trees (ok_Trees_initI T) (hr.mono (by decide)) rfl T.m_Trees pass0 (pa_cons (pv 0) pa_nil)))
      (pss_one (ps_ret (pe_callR (ok_told_heads T TB N) (hr.mono (by decide)) T.k_told_heads rfl T.m_told_heads (passE (takes_of rfl rfl rfl rfl)) (pa_cons (pv 3) (pa_cons (pe_methR (pv 3) T.cl_Trees T.m_Trees_put_back (ok_Trees_put_back T) (hr.mono (by decide)) pass0 (pa_cons (pe_callR (ok_tree_of T) (hr.mono (by decide)) T.k_tree_of rfl T.m_tree_of pass0 (pa_cons (pv 3) (pa_cons (pv 1) pa_nil))) (pa_cons (pe_callR (ok_signs_of T) (hr.mono (by decide)) T.k_signs_of rfl T.m_signs_of pass0 (pa_cons (pv 2) pa_nil)) pa_nil))) pa_nil)))))))), ?_⟩
  have hcap : cap = 8000000 := rfl
  have hpc : pcap = 1431100 := rfl
  have hca := hda.cost h16
  refine ⟨_, rfl, _, rfl, L, a, t, rfl, h1, h16, hT, hda, fun H1 K01 hT1 => ?_⟩
  refine ⟨_, rfl, _, rfl, L, txtC 61 m, rfl, (by rw [len_txtC]; exact hm), by omega, fun c hc => mask_in hc, fun H2 K12 => ?_⟩
  have K02 := K01.trans K12.x
  have hT2 := tabs_keep hT1 K12
  refine ⟨_, rfl, fun p dx hp hdx hne => ⟨p, dx, L, rfl, upd_same, fun A H3 _ st3 K3 fr3 => ⟨rfl, ?_⟩⟩⟩
  obtain ⟨K23, fr⟩ := made_new hp hdx hne K3 fr3
  have hda3 := (hda.keep K02).keep K23.x
  refine ⟨_, rfl, _, rfl, p, _, _, rfl, st3.ob, no_put_back _ _, _, rfl, _, rfl, p, a, A, L, Sto.new, 0, _, rfl, st3, h16, hda3.at_, BT.pats_width L 0 t, by rw [hda.len]; exact hda.few, by omega, fun i S4 H4 st4 E4 K4 hi4 => ?_⟩
  rw [BT.ofPats_pats hda.good] at hi4
  have K24 : Keeps [] H2 H4 := keeps_fresh K23 K4 fr
  refine ⟨_, rfl, txtC 61 m, rfl, (by rw [len_txtC]; omega), fun d H5 K45 hd4 hd5 => ?_⟩
  rw [pat_txtC (by decide) (by decide)] at hd5
  have st5 := st4.keep K45
  have K25 := K24.trans K45
  refine ⟨p, d, A, L, S4, _, i, t, m, rfl, st5, h16, hd5, hm, hi4, by omega, fun k S6 H6 st6 E6 K6 hk6 => ?_⟩
  have K26 : Keeps [] H2 H6 := keeps_fresh K25 K6 fr
  exact ⟨p, A, L, S6, _, k, _, rfl, st6, tabs_keep hT2 K26, h1, h16, hk6, by omega, tel.at (K02.trans K26.x)⟩
end
end Wv

end
section
set_option maxRecDepth 100000
set_option maxHeartbeats 8000000
/-! heads: fits, has_head, head_of, least_head. Printed from K73U6.tpl by tm.py. -/
namespace Wv
open PySem PySem.Spec PyProof.Rows L2 LamX StX
/-- a tuple as a comprehension's target -/
theorem pg_tupB {X : Cx} (K : PySem.W.Frag) (n : Nat) {es : List Expr} {k : Nat} {t : TGs} {pos : Pos} (hK : X.K = K) (hc : X.calm = true) (h : PGs X es t)
    (hn : (assignEach es X.env).length = n := by rfl) (hst : (assignEach es X.env).findIdx? (·.1) = none := by rfl) : PG X (.Tuple es k pos) (gTup K n t) := by
  subst hK
  exact pg_tup hc h hn hst
/-- a head's text -/
abbrev htxt (bs : List Bool) : Str := txtC 42 (bs.map some)
def fitB (b : Bool) (o : Option Bool) : Bool := decide (chC 42 (some b) = chC 42 o) || decide (chC 42 o = 42)
def fitsL (bs : List Bool) (q : BT.Pat) : List Bool := List.zipWith fitB bs q
theorem fits_fit : ∀ (q : BT.Pat) (bs : List Bool) (i : Nat) (h : List Bool), h.drop i = bs → bs.length = q.length → (fitsL bs q).all id = BT.fit i q (BT.rowOf h)
  | [], bs, i, h, _, hl => by
    have e : bs = [] := by simpa using hl
    subst e
    rfl
  | o :: q, [], i, h, _, hl => by simp at hl
  | o :: q, b :: bs, i, h, hd, hl => by
    have hd' : h.drop (i + 1) = bs := by rw [← List.drop_drop, hd]; rfl
    have ih := fits_fit q bs (i + 1) h hd' (by simpa using hl)
    have hr : BT.rowOf h i = b := by
      unfold BT.rowOf
      have : h[i]? = some b := by
        have e : (h.drop i)[0]? = some b := by rw [hd]; rfl
        rw [List.getElem?_drop] at e
        simpa using e
      rw [List.getD_eq_getElem?_getD, this]
      rfl
    show (fitB b o :: fitsL bs q).all id = _
    rw [List.all_cons, ih]
    cases o with
    | none => cases b <;> rfl
    | some c =>
      show _ = ((BT.rowOf h i == c) && BT.fit (i + 1) q (BT.rowOf h))
      rw [hr]
      cases b <;> cases c <;> rfl
theorem htxt_in {bs : List Bool} {c : Nat} (h : c ∈ (htxt bs).cps.toList) : c ∈ (Str.ofString "01").cps.toList := by
  rw [cps01]
  obtain ⟨o, ho, rfl⟩ := List.mem_map.mp (show c ∈ (bs.map some).map (chC 42) from h)
  obtain ⟨b, _, rfl⟩ := List.mem_map.mp ho
  cases b <;> decide
theorem len_htxt (bs : List Bool) : (htxt bs).length = bs.length := by rw [len_txtC, List.length_map]
theorem txtC_getD {s : Nat} {q : BT.Pat} {i : Nat} {o : Option Bool} (h : q[i]? = some o) : (txtC s q).cps.getD i 0 = chC s o := by
  unfold txtC
  rw [Array.getD_eq_getD_getElem?, List.getElem?_toArray, List.getElem?_map, h]
  rfl
def spFits : Sp := fun vs H Q _ => ∃ (bs : List Bool) (q : BT.Pat), vs = [.str (htxt bs), .str (txt q)] ∧ bs.length = q.length ∧ q.length ≤ 1000 ∧ ∀ H', Keeps [] H H' → Q (.bl (BT.fit 0 q (BT.rowOf bs))) H'
def spHas (K : PySem.W.Frag) : Sp := fun vs H Q _ => ∃ (L : Nat) (a : Addr) (t : BT) (bs : List Bool), vs = [.int (L : Int), .ref a, .str (htxt bs)] ∧ 1 ≤ L ∧ L ≤ 16 ∧ Tabs (TT K) H ∧ Hd H a L t ∧ bs.length = L ∧ ∀ H', KeepX [] H H' → Tabs (TT K) H' → Q (.bl (BT.den t (BT.rowOf bs))) H'
def spHeadOf (P : Program) (w : World) (C : Addr) : Sp := fun vs H Q _ => ∃ (p : Addr) (A : TA) (L : Nat) (S : Sto) (n i : Nat) (t : BT), vs = [.ref p, .int i] ∧ TAt P w C H p A L S n ∧ L ≤ 16 ∧ S.ts[i]? = some t ∧
  (t = .leaf false → ∀ H', Keeps [] H H' → Q .non H') ∧ (t ≠ .leaf false → ∀ H', Keeps [] H H' → Q (.str (htxt (BT.first L 0 t))) H')
def spLeast (K : PySem.W.Frag) : Sp := fun vs H Q _ => ∃ (L : Nat) (a : Addr) (t : BT), vs = [.int (L : Int), .ref a] ∧ 1 ≤ L ∧ L ≤ 16 ∧ Tabs (TT K) H ∧ Hd H a L t ∧
  (t = .leaf false → ∀ H', KeepX [] H H' → Tabs (TT K) H' → Q .non H') ∧ (t ≠ .leaf false → ∀ H', KeepX [] H H' → Tabs (TT K) H' → Q (.str (htxt (BT.first L 0 t))) H')
section
variable {P : Program} {w : World} {K : PySem.W.Frag} {mg : Str → Option Value} {base h : Heap} (T : Tp K mg w h)
include T
theorem ok_fits : FnR P w K mg base CX0 1 (He.ga K "fits") spFits := by
  refine fnR0_of T.F_fits sc_fits (fun _ _ _ _ _ _ us hl => match us, hl with | [_, _], _ => rfl) (fun vs H Q E h => ?_) (fun cdv AA outer s H vs Q E hr h => ?_)
  · obtain ⟨bs, q, rfl, _⟩ := h
    rfl
  obtain ⟨bs, q, rfl, hl, hq, k⟩ := h
  refine ⟨_, (pss_one (ps_ret (pe_callB (cr_all rfl) (by rfl) T.z_all (by decide +kernel) (pa_cons (pe_lc (own := [("sign", 2), ("its", 3)]) rfl sc_fits.nd (pi_zipS rfl T.z_zip (pa_cons (pv 0) (pa_cons (pv 1) pa_nil))) (blkOk_by (N := ["head", "pattern", "sign", "its"]) (sc := defScope s_fits) (by decide +kernel)) (fun _ _ _ _ _ => (pg_tupB K 2 rfl (by rfl) (pgs_cons (pg_name (i := 2) sc_fits.nd rfl (Or.inl rfl)) (pgs_cons (pg_name (i := 3) sc_fits.nd rfl (Or.inl rfl)) pgs_nil)))) (fun _ _ _ _ _ => pts_nil) (fun _ _ _ _ _ => (pe_or (pe_cmpR op_eq (pv 2) (pv 3) (nomark _)) (pe_one (pe_cmpR op_eq (pv 3) (pe_gstr T.i_ANY) (nomark _)))))) pa_nil)))), ?_⟩
  refine ⟨_, rfl, _, rfl, htxt bs, txt q, rfl, fun D hD => ?_⟩
  have hn : min (htxt bs).cps.size (txt q).cps.size = q.length := by
    have e1 : (htxt bs).cps.size = bs.length := len_htxt bs
    have e2 : (txt q).cps.size = q.length := len_txtC 42 q
    rw [e1, e2, hl, Nat.min_self]
  rw [hn]
  refine lc_itf (fun i H' => Keeps [] H H' ∧ H' D = some (.lst (((fitsL bs q).take i).map V.bl))) ⟨Keeps.new hD _, upd_same⟩ ?_ ?_
  · rintro i T' H1 hi ⟨K1, hD1⟩ hT'
    have hbi : bs[i]? = some bs[i] := List.getElem?_eq_getElem (by omega)
    have hqi : q[i]? = some q[i] := List.getElem?_eq_getElem hi
    generalize bs[i] = b at hbi
    generalize q[i] = o at hqi
    have hf : (fitsL bs q)[i]? = some (fitB b o) := by
      unfold fitsL
      rw [List.getElem?_zipWith, hbi, hqi]
    have hh : zipF (htxt bs) (txt q) i = [.str ⟨#[chC 42 (some b)]⟩, .str ⟨#[chC 42 o]⟩] := by
      unfold zipF
      rw [txtC_getD (o := some b) (by rw [List.getElem?_map, hbi]; rfl), txtC_getD hqi]
    rw [hh]
    have hD2 : (upd H1 T' (.tup [V.str ⟨#[chC 42 (some b)]⟩, .str ⟨#[chC 42 o]⟩])) D = some (.lst (((fitsL bs q).take i).map V.bl)) := by rw [upd_ne (ne_of_none hD1 hT')]; exact hD1
    have K2 : Keeps [] H (upd H1 T' (.tup [V.str ⟨#[chC 42 (some b)]⟩, .str ⟨#[chC 42 o]⟩])) := K1.trans (Keeps.new hT' _)
    refine ⟨T', _, rfl, SqT.of upd_same, rfl, _, _, rfl, _, _, rfl, rfl, rfl, ?_⟩
    generalize upd H1 T' (.tup [V.str ⟨#[chC 42 (some b)]⟩, .str ⟨#[chC 42 o]⟩]) = H2 at hD2 K2 ⊢
    have hlenf : ((fitsL bs q).take i).length ≤ 1000 := by rw [List.length_take]; omega
    have fin : ∀ c : Bool, c = fitB b o → ∃ acc, H2 D = some (.lst acc) ∧ acc.length < sizeLine ∧ (Keeps [] H (upd H2 D (.lst (acc ++ [V.bl c]))) ∧ (upd H2 D (.lst (acc ++ [V.bl c]))) D = some (.lst (((fitsL bs q).take (i + 1)).map V.bl))) := fun c hc =>
      ⟨_, hD2, by rw [List.length_map]; exact small1000 hlenf, keeps_put K2 hD _, by rw [upd_same, take_more hf, List.map_append, hc]; rfl⟩
    refine ⟨_, rfl, _, rfl, rfl, _, rfl, ?_⟩
    by_cases c : chC 42 (some b) = chC 42 o
    · refine iteT' (by rw [c]; simp) ?_
      exact fin true (by unfold fitB; rw [decide_eq_true c]; rfl)
    · have c' : ¬ (V.str ⟨#[chC 42 (some b)]⟩ = V.str ⟨#[chC 42 o]⟩) := fun z => c (by injection z with z; injection z with z; simpa using z)
      refine iteF' (decide_eq_false c') ?_
      refine ⟨_, rfl, rfl, ?_⟩
      refine fin _ ?_
      unfold fitB
      rw [decide_eq_false c, Bool.false_or]
      have e : (V.str ⟨#[chC 42 o]⟩ = V.str (Str.ofString "*")) ↔ chC 42 o = 42 := by
        have es : Str.ofString "*" = ⟨#[42]⟩ := by decide +kernel
        rw [es]
        exact ⟨fun z => by injection z with z; injection z with z; simpa using z, fun z => by rw [z]⟩
      exact decide_eq_decide.mpr e
  · rintro H1 ⟨K1, hD1⟩
    have e : (fitsL bs q).take q.length = fitsL bs q := by rw [List.take_of_length_le]; unfold fitsL; rw [List.length_zipWith]; omega
    rw [e] at hD1
    refine ⟨D, _, rfl, SqL.of hD1, ?_⟩
    rw [fits_fit q bs 0 bs rfl hl]
    exact k _ K1
theorem ok_has_head (TB : ∀ q ∈ tf, TabB base mg (He.cT K q).1 (He.cT K q).2) (N : Ne P K) : FnR P w K mg base CX0 24 (He.ga K "has_head") (spHas K) := by
  refine fnR0_of T.F_has_head sc_has_head (fun _ _ _ _ _ _ us hl => match us, hl with | [_, _, _], _ => rfl) (fun vs H Q E h => ?_) (fun cdv AA outer s H vs Q E hr h => ?_)
  · obtain ⟨L, a, t, bs, rfl, _⟩ := h
    rfl
  obtain ⟨L, a, t, bs, rfl, h1, h16, hT, hda, hb, k⟩ := h
  refine ⟨_, (pss_cons (ps_expr (pe_callR (ok_check_heads T TB N) (hr.mono (by decide)) T.k_check_heads rfl T.m_check_heads pass0 (pa_cons (pv 0) (pa_cons (pv 1) pa_nil))))
      (pss_cons (ps_expr (pe_callR (ok_check_head T) (hr.mono (by decide)) T.k_check_head rfl T.m_check_head pass0 (pa_cons (pv 0) (pa_cons (pv 2) pa_nil))))
      (pss_one (ps_ret (pe_callB (cr_any rfl) (by rfl) T.z_any (by decide +kernel) (pa_cons (pe_lc (own := [("pattern", 3)]) rfl sc_has_head.nd (pi_tup (pv 1)) (blkOk_by (N := ["width", "heads", "head", "pattern"]) (sc := defScope s_has_head) (by decide +kernel)) (fun _ _ _ _ _ => (pg_name (i := 3) sc_has_head.nd rfl (Or.inl rfl))) (fun _ _ _ _ _ => pts_nil) (fun _ _ _ _ _ => (pe_callR (ok_fits T) (hr.mono (by decide)) T.k_fits rfl T.m_fits pass0 (pa_cons (pv 2) (pa_cons (pv 3) pa_nil))))) pa_nil)))))), ?_⟩
  have hfew := hda.few
  have hlen := hda.len
  refine ⟨_, rfl, _, rfl, L, a, t, rfl, h1, h16, hT, hda, fun H1 K1 hT1 => ?_⟩
  refine ⟨_, rfl, _, rfl, L, htxt bs, rfl, (by rw [len_htxt]; exact hb), by omega, fun c hc => htxt_in hc, fun H2 K2 => ?_⟩
  have K02 := K1.trans K2.x
  have hT2 := tabs_keep hT1 K2
  have hda2 := hda.keep K02
  refine ⟨_, rfl, a, rfl, ⟨_, SqT.of hda2.at_⟩, fun D hD => lc_tup (K := K) (a := a) (xs := txts (BT.pats L 0 t)) (fun i H' => Keeps [] H2 H' ∧ H' D = some (.lst ((((BT.pats L 0 t).take i).map fun q => BT.fit 0 q (BT.rowOf bs)).map V.bl))) ⟨Keeps.new hD _, upd_same⟩ (fun i H' _ e => SqT.of (e.1 a _ hda2.at_ (by simp))) ?_ ?_⟩
  · rintro i x H' hx ⟨K3, hD3⟩
    obtain ⟨q, hq', rfl⟩ : ∃ q, (BT.pats L 0 t)[i]? = some q ∧ x = V.str (txt q) := by
      rw [List.getElem?_map] at hx
      cases e : (BT.pats L 0 t)[i]? with
      | none => rw [e] at hx; cases hx
      | some q => rw [e] at hx; exact ⟨q, rfl, (Option.some.inj hx).symm⟩
    have hi := ix_lt hq'
    have hql := BT.pats_width L 0 t q (List.mem_of_getElem? hq')
    refine ⟨rfl, _, rfl, _, rfl, bs, q, rfl, by omega, by omega, fun H4 K4 => ?_⟩
    refine ⟨_, K4 D _ hD3 (by simp), by rw [List.length_map, List.length_map, List.length_take]; exact small8 (by omega), keeps_put (K3.trans K4) hD _, ?_⟩
    rw [upd_same, take_more hq', List.map_append, List.map_append]
    rfl
  · rintro H3 ⟨K3, hD3⟩
    have e : (txts (BT.pats L 0 t)).length = (BT.pats L 0 t).length := by simp
    rw [e, List.take_length] at hD3
    refine ⟨D, _, rfl, SqL.of hD3, ?_⟩
    rw [List.any_map]
    have e2 := BT.pats_den (L := L) L 0 t (by omega) hda.good (Nat.zero_le _) (BT.rowOf bs)
    rw [show (BT.pats L 0 t).any (id ∘ fun q => BT.fit 0 q (BT.rowOf bs)) = BT.den t (BT.rowOf bs) from e2]
    exact k _ (K02.trans K3.x) (tabs_keep hT2 K3)
theorem ok_head_of : FnR P w K mg base CX0 3 (He.ga K "head_of") (spHeadOf P w (TC K)) := by
  refine fnR0_of T.F_head_of sc_head_of (fun _ _ _ _ _ _ us hl => match us, hl with | [_, _], _ => rfl) (fun vs H Q E h => ?_) (fun cdv AA outer s H vs Q E hr h => ?_)
  · obtain ⟨p, A, L, S, n, i, t, rfl, _⟩ := h
    rfl
  obtain ⟨p, A, L, S, n, i, t, rfl, st, h16, hi, k0, k⟩ := h
  refine ⟨_, (pss_cons (ps_set (i := 2) sc_head_of.nd rfl (Or.inl rfl) (pe_methR (pv 0) T.cl_Trees T.m_Trees_first (ok_Trees_first T) (hr.mono (by decide)) pass0 (pa_cons (pv 1) pa_nil)))
      (pss_one (ps_ret (pe_ifExp (pt_cmpR op_isN (pv 2) pe_non (nomark _)) pe_non (pe_join pe_str (pe_lc (own := [("sign", 3)]) rfl sc_head_of.nd (pi_list (pv 2)) (blkOk_by (N := ["trees", "tree", "signs", "sign"]) (sc := defScope s_head_of) (by decide +kernel)) (fun _ _ _ _ _ => (pg_name (i := 3) sc_head_of.nd rfl (Or.inl rfl))) (fun _ _ _ _ _ => pts_nil) (fun _ _ _ _ _ => (pe_ix ix_str (pe_gstr T.i_SIGNS) (pv 3) (fun _ _ => rfl))))))))), ?_⟩
  refine ⟨_, rfl, p, _, _, rfl, st.ob, no_first _ _, _, rfl, p, A, L, S, n, i, t, rfl, st, h16, hi, fun e => ?_, fun e a H1 K1 ha0 ha => ?_⟩
  · refine ⟨_, rfl, rfl, _, rfl, ?_⟩
    exact iteT' rfl (k0 e H (Keeps.refl _ _))
  · refine ⟨_, rfl, rfl, _, rfl, ?_⟩
    refine iteF' rfl ?_
    have hlen : (BT.first L 0 t).length = L := BT.first_len L 0 t
    refine ⟨⟨_, rfl⟩, _, rfl, a, rfl, ⟨_, SqL.of ha⟩, fun D hD => ?_⟩
    refine lc_list (K := K) (a := a) (xs := bits (BT.first L 0 t)) (fun m H' => H' = upd H1 D (.lst (((BT.first L 0 t).take m).map fun b => V.str ⟨#[chC 42 (some b)]⟩))) rfl (fun m H' _ e => by rw [e]; exact SqL.of (by rw [upd_ne (ne_of_none ha hD)]; exact ha)) ?_ ?_
    · rintro m y H' hy rfl
      obtain ⟨b, hb, rfl⟩ : ∃ b, (BT.first L 0 t)[m]? = some b ∧ y = V.int (bnum b : Nat) := by
        rw [List.getElem?_map] at hy
        cases e : (BT.first L 0 t)[m]? with
        | none => rw [e] at hy; cases hy
        | some b => rw [e] at hy; exact ⟨b, rfl, (Option.some.inj hy).symm⟩
      have hm := ix_lt hb
      refine ⟨rfl, _, rfl, _, _, (48 + bnum b), rfl, rfl, by decide, ?_, ?_⟩
      · rw [cps01]; cases b <;> rfl
      · refine ⟨_, upd_same, by rw [List.length_map, List.length_take]; exact small1000 (by omega), ?_⟩
        rw [upd_upd, take_more hb, List.map_append]
        cases b <;> rfl
    · rintro H' rfl
      rw [List.length_map, List.take_length]
      have hsum : ∀ q : List Bool, ((q.map fun b => (⟨#[chC 42 (some b)]⟩ : Str)).map (·.length)).sum = q.length := by
        intro q
        induction q with
        | nil => rfl
        | cons o q ih => rw [List.map_cons, List.map_cons, List.sum_cons, ih, List.length_cons]; show 1 + _ = _; omega
      refine ⟨_, D, (BT.first L 0 t).map fun b => (⟨#[chC 42 (some b)]⟩ : Str), rfl, rfl, .inl (SqL.of (by rw [upd_same, List.map_map]; rfl)), ?_, ?_⟩
      · rw [hsum, List.length_map]
        have e : (Str.ofString "").length = 0 := by decide +kernel
        rw [e]
        omega
      have ej := join_txt 42 ((BT.first L 0 t).map some)
      rw [List.map_map] at ej
      rw [show (BT.first L 0 t).map (fun b => (⟨#[chC 42 (some b)]⟩ : Str)) = (BT.first L 0 t).map ((fun o => (⟨#[chC 42 o]⟩ : Str)) ∘ some) from rfl, ej]
      exact k e _ (K1.trans (Keeps.new hD _))
theorem ok_least_head (TB : ∀ q ∈ tf, TabB base mg (He.cT K q).1 (He.cT K q).2) (N : Ne P K) : FnR P w K mg base CX0 24 (He.ga K "least_head") (spLeast K) := by
  refine fnR0_of T.F_least_head sc_least_head (fun _ _ _ _ _ _ us hl => match us, hl with | [_, _], _ => rfl) (fun vs H Q E h => ?_) (fun cdv AA outer s H vs Q E hr h => ?_)
  · obtain ⟨L, a, t, rfl, _⟩ := h
    rfl
  obtain ⟨L, a, t, rfl, h1, h16, hT, hda, k0, k⟩ := h
  refine ⟨_, (pss_cons (ps_expr (pe_callR (ok_check_heads T TB N) (hr.mono (by decide)) T.k_check_heads rfl T.m_check_heads pass0 (pa_cons (pv 0) (pa_cons (pv 1) pa_nil))))
      (pss_cons (ps_set (i := 2) sc_least_head.nd rfl (Or.inl rfl) (pe_makeR T.mk_Trees (ok_Trees_initI T) (hr.mono (by decide)) rfl T.m_Trees pass0 (pa_cons (pv 0) pa_nil)))
      (pss_one (ps_ret (pe_callR (ok_head_of T) (hr.mono (by decide)) T.k_head_of rfl T.m_head_of pass0 (pa_cons (pv 2) (pa_cons (pe_callR (ok_tree_of T) (hr.mono (by decide)) T.k_tree_of rfl T.m_tree_of pass0 (pa_cons (pv 2) (pa_cons (pv 1) pa_nil))) pa_nil))))))), ?_⟩
  have hcap : cap = 8000000 := rfl
  have hca := hda.cost h16
  refine ⟨_, rfl, _, rfl, L, a, t, rfl, h1, h16, hT, hda, fun H2 K02 hT2 => ?_⟩
  refine ⟨_, rfl, fun p dx hp hdx hne => ⟨p, dx, L, rfl, upd_same, fun A H3 _ st3 K3 fr3 => ⟨rfl, ?_⟩⟩⟩
  obtain ⟨K23, fr⟩ := made_new hp hdx hne K3 fr3
  have hda3 := (hda.keep K02).keep K23.x
  refine ⟨_, rfl, _, rfl, _, rfl, p, a, A, L, Sto.new, 0, _, rfl, st3, h16, hda3.at_, BT.pats_width L 0 t, by rw [hda.len]; exact hda.few, by omega, fun i S4 H4 st4 E4 K4 hi4 => ?_⟩
  rw [BT.ofPats_pats hda.good] at hi4
  have K24 : Keeps [] H2 H4 := keeps_fresh K23 K4 fr
  refine ⟨p, A, L, S4, _, i, t, rfl, st4, h16, hi4, fun e H5 K5 => k0 e H5 (K02.trans (K24.trans K5).x) (tabs_keep hT2 (K24.trans K5)), fun e H5 K5 => k e H5 (K02.trans (K24.trans K5).x) (tabs_keep hT2 (K24.trans K5))⟩
end
end Wv

end
section
set_option maxRecDepth 100000
set_option maxHeartbeats 8000000
/-! the law's own defs: _law_take, _law_of, _law_row, _law_patterns, _law_put, _law_pot. Printed from K73U7.tpl by tm.py. -/
namespace L2
open PySem PySem.Spec PyProof.Rows
def CPowB (i j : Int) : Prop := 0 ≤ j ∧ (Builtin.Int.intBits i : Int) * j ≤ 2 ^ 27
theorem op_powB {X : Cx} : OpR X (binaryOp .Pow) (rI CPowB fun i j => .int (i ^ j.toNat)) := opI fun _ _ _ _ _ _ _ hc q => pow_int hc.1 hc.2 q
end L2
namespace Wv
open PySem PySem.Spec PyProof.Rows L2 LamX StX
/-- the law's pot of digits: a list of three ints; c bounds its counter -/
def Pot (H : Hp) (a : Addr) (c : Nat) : Prop := ∃ x y z : Int, H a = some (.lst [.int x, .int y, .int z]) ∧ 0 ≤ y ∧ y < 2305843009213693951 ∧ 0 ≤ z ∧ z ≤ (c : Int)
theorem Pot.mono {H : Hp} {a : Addr} {c d : Nat} (h : Pot H a c) (hd : c ≤ d) : Pot H a d := let ⟨x, y, z, e, h1, h2, h3, h4⟩ := h; ⟨x, y, z, e, h1, h2, h3, by omega⟩
theorem Pot.keepX {H H' : Hp} {a : Addr} {c : Nat} (h : Pot H a c) (k : KeepX [] H H') : Pot H' a c := let ⟨x, y, z, e, r⟩ := h; ⟨x, y, z, k.lst e (by simp), r⟩
theorem Pot.keep {H H' : Hp} {a : Addr} {c : Nat} (h : Pot H a c) (k : Keeps [] H H') : Pot H' a c := h.keepX k.x
def spTake : Sp := fun vs H Q _ => ∃ (a : Addr) (u : Int) (c : Nat), vs = [.ref a, .int u] ∧ Pot H a c ∧ c ≤ 100000 ∧ 1 ≤ u ∧ u < 1073741824 ∧ ∀ (d : Nat) (H' : Hp), (d : Int) < u → Keeps [a] H H' → Pot H' a (c + 1) → Q (.int (d : Int)) H'
theorem txtC_pat {s : Nat} {y : Str} (h : ∀ ch ∈ y.cps.toList, ch = 48 ∨ ch = 49 ∨ ch = s) (h0 : s ≠ 48) (h1 : s ≠ 49) : txtC s (pat y) = y := by
  obtain ⟨a⟩ := y
  unfold txtC pat
  rw [List.map_map]
  have e : (a.toList.map (chC s ∘ unc)) = a.toList := by
    refine (List.map_congr_left (g := id) fun ch hch => ?_).trans (List.map_id _)
    rcases h ch hch with rfl | rfl | rfl
    · rfl
    · rfl
    · show chC ch (unc ch) = ch
      unfold unc
      rw [if_neg h0, if_neg h1]
      rfl
  rw [e]
theorem txt_pat {y : Str} (h : ∀ ch ∈ y.cps.toList, ch = 48 ∨ ch = 49 ∨ ch = 42) : txt (pat y) = y := txtC_pat h (by decide) (by decide)
def spOfS : Sp := fun vs H Q _ => ∃ (a : Addr) (z : Str) (c : Nat), vs = [.ref a, .str z] ∧ Pot H a c ∧ c ≤ 100000 ∧ 1 ≤ z.length ∧ z.length ≤ 1000 ∧ ∀ (ch : Nat) (H' : Hp), ch ∈ z.cps.toList → Keeps [a] H H' → Pot H' a (c + 1) → Q (.str ⟨#[ch]⟩) H'
def spOfL (K : PySem.W.Frag) : Sp := fun vs H Q _ => ∃ (a b : Addr) (xs : List V) (c : Nat), vs = [.ref a, .ref b] ∧ Pot H a c ∧ c ≤ 100000 ∧ H b = some (.lst xs) ∧ a ≠ b ∧ 1 ≤ xs.length ∧ xs.length ≤ 1000 ∧ ∀ (x : V) (H' : Hp), x ∈ xs → Keeps [a] H H' → Pot H' a (c + 1) → Q x H'
def spLawRow : Sp := fun vs H Q _ => ∃ (a : Addr) (n : Nat) (z : Str) (c : Nat), vs = [.ref a, .int (n : Int), .str z] ∧ Pot H a c ∧ c ≤ 50000 ∧ n ≤ 1000 ∧ 1 ≤ z.length ∧ z.length ≤ 1000 ∧ ∀ (y : Str) (H' : Hp), y.length = n → (∀ ch ∈ y.cps.toList, ch ∈ z.cps.toList) → Keeps [a] H H' → Pot H' a (c + n) → Q (.str y) H'
def spLawPats : Sp := fun vs H Q _ => ∃ (a : Addr) (n m c : Nat), vs = [.ref a, .int (n : Int), .int (m : Int)] ∧ Pot H a c ∧ c ≤ 10000 ∧ n ≤ 16 ∧ m ≤ 100 ∧ ∀ (b : Addr) (qs : List BT.Pat) (H' : Hp), qs.length ≤ m → (∀ q ∈ qs, q.length = n) → Keeps [a] H H' → Pot H' a (c + 2 + n * m) → H b = none → H' b = some (.tup (txts qs)) → Q (.ref b) H'
section
variable {P : Program} {w : World} {K : PySem.W.Frag} {mg : Str → Option Value} {base h : Heap} (T : Tp K mg w h)
include T
theorem ok_law_take : FnR P w K mg base CX0 1 (He.ga K "_law_take") spTake := by
  refine fnR0_of T.F_law_take sc_law_take (fun _ _ _ _ _ _ us hl => match us, hl with | [_, _], _ => rfl) (fun vs H Q E h => ?_) (fun cdv AA outer s H vs Q E hr h => ?_)
  · obtain ⟨a, u, c, rfl, _⟩ := h
    rfl
  obtain ⟨a, u, c, rfl, hp, hc, hu1, hu2, k⟩ := h
  refine ⟨_, (pss_cons (ps_if (pt_cmpR op_gt (pe_ix ix_list (pv 0) pe_int (fun _ _ => rfl)) pe_int (nomark _)) (pss_cons (ps_set (i := 2) sc_law_take.nd rfl (Or.inl rfl) (pe_op op_mod (pe_callTy call_int1 (by rfl) T.z_int (by decide +kernel) (pa_cons (pe_ix ix_list (pv 0) pe_int (fun _ _ => rfl)) pa_nil)) (pv 1)))
      (pss_cons (ps_asg (pe_op op_fdiv (pe_ix ix_list (pv 0) pe_int (fun _ _ => rfl)) (pv 1)) (pg_sub (pv 0) pe_int set_list))
      (pss_one (ps_ret (pv 2))))) pss_nil)
      (pss_cons (ps_asg (pe_op op_add (pe_ix ix_list (pv 0) pe_int (fun _ _ => rfl)) pe_int) (pg_sub (pv 0) pe_int set_list))
      (pss_cons (ps_set (i := 3) sc_law_take.nd rfl (Or.inl rfl) (pe_ix ix_list (pe_lst (pa_cons pe_int (pa_cons pe_int (pa_cons pe_int (pa_cons pe_int (pa_cons pe_int pa_nil)))))) (pe_op op_mod (pe_callTy call_int1 (by rfl) T.z_int (by decide +kernel) (pa_cons (pe_ix ix_list (pv 0) pe_int (fun _ _ => rfl)) pa_nil)) pe_int) (fun _ _ => rfl)))
      (pss_cons (ps_set (i := 4) sc_law_take.nd rfl (Or.inl rfl) (pe_op op_mod (pe_callTy call_int1 (by rfl) T.z_int (by decide +kernel) (pa_cons (pe_op op_pow (pe_op op_add (pe_op op_add (pe_ix ix_list (pv 0) pe_int (fun _ _ => rfl)) (pe_op op_mul (pe_op op_mul pe_int (pe_ix ix_list (pv 0) pe_int (fun _ _ => rfl))) (pe_ix ix_list (pv 0) pe_int (fun _ _ => rfl)))) pe_int) pe_int) pa_nil)) (pv 3)))
      (pss_cons (ps_set (i := 4) sc_law_take.nd rfl (Or.inl rfl) (pe_op op_mod (pe_callTy call_int1 (by rfl) T.z_int (by decide +kernel) (pa_cons (pe_op op_mul (pv 4) (pe_op op_add (pe_op op_mod (pe_callTy call_int1 (by rfl) T.z_int (by decide +kernel) (pa_cons (pv 4) pa_nil)) pe_int) (pe_op op_mul pe_int (pe_ix ix_list (pv 0) pe_int (fun _ _ => rfl))))) pa_nil)) pe_int))
      (pss_one (ps_ret (pe_op op_mod (pe_callTy call_int1 (by rfl) T.z_int (by decide +kernel) (pa_cons (pe_op op_fdiv (pv 4) pe_int) pa_nil)) (pv 1))))))))), ?_⟩
  obtain ⟨x, y, z, ha, hy1, hy2, hz1, hz2⟩ := hp
  have i0 : atI [V.int x, .int y, .int z] 0 = some (.int x) := rfl
  have i1 : atI [V.int x, .int y, .int z] 1 = some (.int y) := rfl
  have i2 : atI [V.int x, .int y, .int z] 2 = some (.int z) := rfl
  refine ⟨_, rfl, a, _, _, _, rfl, rfl, SqL.of ha, i0, _, _, rfl, rfl, _, rfl, ?_⟩
  refine ite2 (fun c1 => ?_) (fun c1 => ?_)
  · refine ⟨_, rfl, a, _, _, _, rfl, rfl, SqL.of ha, i0, .inl ⟨_, rfl, _, rfl, _, _, rfl, rfl, (by show 0 < u; omega), ?_⟩⟩
    refine ⟨_, rfl, a, _, _, _, rfl, rfl, SqL.of ha, i0, _, rfl, _, _, rfl, rfl, ⟨by omega, hu2⟩, ?_⟩
    refine ⟨_, rfl, a, _, _, _, rfl, rfl, ha, rfl, ?_⟩
    have h1 : 0 ≤ x % u := Int.emod_nonneg _ (by omega)
    have h2 : x % u < u := Int.emod_lt_of_pos _ (by omega)
    have e : x % u = (((x % u).toNat : Nat) : Int) := by omega
    have := k (x % u).toNat (upd H a (.lst [.int (x / u), .int y, .int z])) (by omega) (Keeps.upd_mem (by simp) _) ⟨x / u, y, z, upd_same, hy1, hy2, hz1, by omega⟩
    rw [← e] at this
    exact ⟨_, rfl, this⟩
  · refine ⟨_, rfl, a, _, _, _, rfl, rfl, SqL.of ha, i2, _, _, rfl, rfl, ?_⟩
    refine ⟨_, rfl, a, _, _, _, rfl, rfl, ha, rfl, ?_⟩
    have K1 : Keeps [a] H (upd H a (.lst [.int x, .int y, .int (z + 1)])) := Keeps.upd_mem (by simp) _
    have ha1 : (upd H a (.lst [.int x, .int y, .int (z + 1)])) a = some (.lst [.int x, .int y, .int (z + 1)]) := upd_same
    show (fun H1 => _) (upd H a (.lst [.int x, .int y, .int (z + 1)]))
    generalize upd H a (.lst [.int x, .int y, .int (z + 1)]) = H1 at K1 ha1 ⊢
    have j2 : atI [V.int x, .int y, .int (z + 1)] 2 = some (.int (z + 1)) := rfl
    have j1 : atI [V.int x, .int y, .int (z + 1)] 1 = some (.int y) := rfl
    have hz' : 0 ≤ z + 1 ∧ z + 1 ≤ 100001 := by omega
    have hzc : z + 1 ≤ (c : Int) + 1 := by omega
    generalize z + 1 = z' at *
    refine ⟨(by show 5 ≤ sizeLine; decide), fun q hq => ?_⟩
    have K2 : Keeps [a] H (upd H1 q (.lst [.int 2147483647, .int 2147483629, .int 2147483587, .int 2147483579, .int 2147483563])) := K1.trans (Keeps.new hq _)
    have ha2 : (upd H1 q (.lst [.int 2147483647, .int 2147483629, .int 2147483587, .int 2147483579, .int 2147483563])) a = some (.lst [.int x, .int y, .int z']) := by rw [upd_ne (ne_of_none ha1 hq)]; exact ha1
    have hq2 : (upd H1 q (.lst [.int 2147483647, .int 2147483629, .int 2147483587, .int 2147483579, .int 2147483563])) q = some (.lst [.int 2147483647, .int 2147483629, .int 2147483587, .int 2147483579, .int 2147483563]) := upd_same
    generalize upd H1 q (.lst [.int 2147483647, .int 2147483629, .int 2147483587, .int 2147483579, .int 2147483563]) = H2 at K2 ha2 hq2 ⊢
    have hpr : ∃ pr : Int, atI [V.int 2147483647, .int 2147483629, .int 2147483587, .int 2147483579, .int 2147483563] (z' % 5) = some (.int pr) ∧ 0 < pr ∧ pr < 2147483648 := by
      have h5 : z' % 5 = 0 ∨ z' % 5 = 1 ∨ z' % 5 = 2 ∨ z' % 5 = 3 ∨ z' % 5 = 4 := by omega
      rcases h5 with e | e | e | e | e <;> rw [e]
      · exact ⟨_, rfl, by decide, by decide⟩
      · exact ⟨_, rfl, by decide, by decide⟩
      · exact ⟨_, rfl, by decide, by decide⟩
      · exact ⟨_, rfl, by decide, by decide⟩
      · exact ⟨_, rfl, by decide, by decide⟩
    obtain ⟨pr, hpr, hpr1, hpr2⟩ := hpr
    refine ⟨_, rfl, a, _, _, _, rfl, rfl, SqL.of ha2, j2, .inl ⟨_, rfl, _, _, rfl, rfl, (show (0 : Int) < 5 by decide), q, _, _, _, rfl, rfl, SqL.of hq2, hpr, ?_⟩⟩
    refine ⟨_, rfl, a, _, _, _, rfl, rfl, SqL.of ha2, j1, ?_⟩
    refine ⟨_, rfl, a, _, _, _, rfl, rfl, SqL.of ha2, j2, _, _, rfl, rfl, .inl (by decide), ?_⟩
    refine ⟨_, rfl, a, _, _, _, rfl, rfl, SqL.of ha2, j2, _, _, rfl, rfl, .inr (by constructor <;> omega), ?_⟩
    have hsq : 97187 * z' * z' ≤ 97187 * 100001 * 100001 := Int.mul_le_mul (by omega) hz'.2 hz'.1 (by decide)
    have hsq0 : 0 ≤ 97187 * z' * z' := Int.mul_nonneg (by omega) hz'.1
    have hbase : (y + 97187 * z' * z' + 47).natAbs < 2 ^ 64 := by
      have : (2 : Nat) ^ 64 = 18446744073709551616 := by decide
      omega
    refine ⟨_, _, rfl, rfl, _, _, rfl, rfl, _, _, rfl, rfl, ⟨(by decide), (by decide), hbase⟩, .inl ⟨_, rfl, _, rfl, _, _, rfl, rfl, hpr1, ?_⟩⟩
    have hm1 : 0 ≤ (y + 97187 * z' * z' + 47) ^ (3 : Int).toNat % pr := Int.emod_nonneg _ (by omega)
    have hm2 : (y + 97187 * z' * z' + 47) ^ (3 : Int).toNat % pr < pr := Int.emod_lt_of_pos _ hpr1
    have hM : ∀ m : Int, 0 ≤ m → m < pr → CMul m (m % 10159 + 101 * z') := fun m hm1 hm2 => .inl (by
      have e : (2 : Int) ^ 64 = 18446744073709551616 := by decide
      rw [e]
      constructor <;> omega)
    have fin : ∀ m2 : Int, Q (.int (m2 / 107 % u)) H2 := fun m2 => by
      have g1 : 0 ≤ m2 / 107 % u := Int.emod_nonneg _ (by omega)
      have g2 : m2 / 107 % u < u := Int.emod_lt_of_pos _ (by omega)
      have e : m2 / 107 % u = (((m2 / 107 % u).toNat : Nat) : Int) := by omega
      have := k (m2 / 107 % u).toNat H2 (by omega) K2 ⟨x, y, z', ha2, hy1, hy2, hz'.1, by omega⟩
      rw [← e] at this
      exact this
    refine ⟨_, rfl, _, rfl, .inl ⟨_, rfl, _, _, rfl, rfl, (show (0 : Int) < 10159 by decide), ?_⟩⟩
    refine ⟨_, rfl, a, _, _, _, rfl, rfl, SqL.of ha2, j2, _, _, rfl, rfl, .inl (by decide), _, _, rfl, rfl, _, _, rfl, rfl, hM _ hm1 hm2, .inl ⟨_, rfl, _, _, rfl, rfl, (show (0 : Int) < 2305843009213693907 by decide), ?_⟩⟩
    exact ⟨_, rfl, _, _, rfl, rfl, ⟨(by decide), (by decide)⟩, .inl ⟨_, rfl, _, rfl, _, _, rfl, rfl, (by show 0 < u; omega), fin _⟩⟩
theorem ok_law_ofS : FnR P w K mg base CX0 2 (He.ga K "_law_of") spOfS := by
  refine fnR0_of T.F_law_of sc_law_of (fun _ _ _ _ _ _ us hl => match us, hl with | [_, _], _ => rfl) (fun vs H Q E h => ?_) (fun cdv AA outer s H vs Q E hr h => ?_)
  · obtain ⟨a, z, c, rfl, _⟩ := h
    rfl
  obtain ⟨a, z, c, rfl, hp, hc, hz1, hz2, k⟩ := h
  refine ⟨_, (pss_one (ps_ret (pe_ix ix_str (pv 1) (pe_callR (ok_law_take T) (hr.mono (by decide)) T.k_law_take rfl T.m_law_take pass0 (pa_cons (pv 0) (pa_cons (pe_callB call_len_str (by rfl) T.z_len PySem.boot_len (pa_cons (pv 1) pa_nil)) pa_nil))) (fun _ _ => rfl)))), ?_⟩
  refine ⟨_, rfl, _, rfl, _, rfl, z, rfl, small1000' hz2, a, _, c, rfl, hp, hc, by omega, by omega, fun d H1 hd K1 hp1 => ?_⟩
  have hi : d < z.cps.toList.length := by rw [Array.length_toList]; exact Int.ofNat_lt.mp hd
  have hg : z.cps.toList[d]? = some z.cps.toList[d] := List.getElem?_eq_getElem hi
  exact ⟨z, _, z.cps.toList[d], rfl, rfl, small1000' hz2, atI_nat hg, k _ H1 (List.getElem_mem hi) K1 hp1⟩
theorem ok_law_ofL : FnR P w K mg base CX0 2 (He.ga K "_law_of") (spOfL K) := by
  refine fnR0_of T.F_law_of sc_law_of (fun _ _ _ _ _ _ us hl => match us, hl with | [_, _], _ => rfl) (fun vs H Q E h => ?_) (fun cdv AA outer s H vs Q E hr h => ?_)
  · obtain ⟨a, b, xs, c, rfl, _⟩ := h
    rfl
  obtain ⟨a, b, xs, c, rfl, hp, hc, hb, hab, hz1, hz2, k⟩ := h
  refine ⟨_, (pss_one (ps_ret (pe_ix ix_list (pv 1) (pe_callR (ok_law_take T) (hr.mono (by decide)) T.k_law_take rfl T.m_law_take pass0 (pa_cons (pv 0) (pa_cons (pe_callB call_len_seq (by rfl) T.z_len PySem.boot_len (pa_cons (pv 1) pa_nil)) pa_nil))) (fun _ _ => rfl)))), ?_⟩
  refine ⟨_, rfl, _, rfl, _, rfl, b, _, rfl, .inl (SqL.of hb), a, _, c, rfl, hp, hc, by omega, by omega, fun d H1 hd K1 hp1 => ?_⟩
  have hi : d < xs.length := Int.ofNat_lt.mp hd
  have hg : xs[d]? = some xs[d] := List.getElem?_eq_getElem hi
  exact ⟨b, _, _, xs[d], rfl, rfl, SqL.of (K1 b _ hb (by simpa using fun e => hab e.symm)), atI_nat hg, k _ H1 (List.getElem_mem hi) K1 hp1⟩
theorem ok_law_row : FnR P w K mg base CX0 3 (He.ga K "_law_row") spLawRow := by
  refine fnR0_of T.F_law_row sc_law_row (fun _ _ _ _ _ _ us hl => match us, hl with | [_, _, _], _ => rfl) (fun vs H Q E h => ?_) (fun cdv AA outer s H vs Q E hr h => ?_)
  · obtain ⟨a, n, z, c, rfl, _⟩ := h
    rfl
  obtain ⟨a, n, z, c, rfl, hp, hc, hn, hz1, hz2, k⟩ := h
  refine ⟨_, (pss_one (ps_ret (pe_join pe_str (pe_lc (own := [("place", 3)]) rfl sc_law_row.nd (pi_range1 rfl T.z_range (pa_cons (pv 1) pa_nil)) (blkOk_by (N := ["pot", "width", "signs", "place"]) (sc := defScope s_law_row) (by decide +kernel)) (fun _ _ _ _ _ => (pg_name (i := 3) sc_law_row.nd rfl (Or.inl rfl))) (fun _ _ _ _ _ => pts_nil) (fun _ _ _ _ _ => (pe_callR (ok_law_ofS T) (hr.mono (by decide)) T.k_law_of rfl T.m_law_of pass0 (pa_cons (pv 0) (pa_cons (pv 2) pa_nil)))))))), ?_⟩
  obtain ⟨px, py, pz, hpa, hpr⟩ := id hp
  refine ⟨⟨_, rfl⟩, _, rfl, (n : Int), rfl, by omega, by omega, fun D hD => ?_⟩
  have haD : a ≠ D := fun e => by rw [← e, hpa] at hD; cases hD
  refine lc_range (lo := 0) (n := ((n : Nat) : Int).toNat) (fun i H' => ∃ cs : List Nat, cs.length = i ∧ (∀ ch ∈ cs, ch ∈ z.cps.toList) ∧ H' D = some (.lst (cs.map fun ch => V.str ⟨#[ch]⟩)) ∧ Keeps [a] H H' ∧ Pot H' a (c + i))
    ⟨[], rfl, (by simp), upd_same, Keeps.new hD _, hp.keep (Keeps.new hD _)⟩ ?_ ?_
  · rintro i H1 hi ⟨cs, hcs, hin, hD1, K1, hp1⟩
    refine ⟨rfl, _, rfl, _, rfl, a, z, c + i, rfl, hp1, by omega, hz1, hz2, fun ch H2 hch K2 hp2 => ?_⟩
    have hD2 := K2 D _ hD1 (by simpa using fun e => haD e.symm)
    obtain ⟨qx, qy, qz, hqa, hqr⟩ := hp2
    refine ⟨_, hD2, by rw [List.length_map, hcs]; exact small1000 (by omega), cs ++ [ch], by rw [List.length_append, hcs]; rfl, fun c' hc' => ?_, ?_, keeps_upd (K1.trans K2) hD _, ⟨qx, qy, qz, by rw [upd_ne haD]; exact hqa, hqr⟩⟩
    · rcases List.mem_append.mp hc' with h | h
      · exact hin c' h
      · rw [List.mem_singleton.mp h]; exact hch
    · rw [upd_same, List.map_append]; rfl
  · rintro H1 ⟨cs, hcs, hin, hD1, K1, hp1⟩
    rw [Int.toNat_natCast] at hcs hp1
    have hsum : ∀ cs : List Nat, ((cs.map fun ch => (⟨#[ch]⟩ : Str)).map (·.length)).sum = cs.length := by
      intro cs
      induction cs with
      | nil => rfl
      | cons o q ih => rw [List.map_cons, List.map_cons, List.sum_cons, ih, List.length_cons]; show 1 + _ = _; omega
    refine ⟨_, D, cs.map fun ch => (⟨#[ch]⟩ : Str), rfl, rfl, .inl (SqL.of (by rw [hD1, List.map_map]; rfl)), ?_, ?_⟩
    · rw [hsum, List.length_map]
      have e : (Str.ofString "").length = 0 := by decide +kernel
      rw [e]
      omega
    have ej := join_chars cs
    rw [← TL.join_eq] at ej
    generalize Txt.join (Str.ofString "") (cs.map fun ch => (⟨#[ch]⟩ : Str)) = y at ej ⊢
    have ey : y.cps.toList = cs := ej
    refine k y H1 ?_ (fun ch hch => hin ch (by rw [← ey]; exact hch)) K1 hp1
    rw [← hcs, ← ey, Array.length_toList]
    rfl
theorem ok_law_patterns : FnR P w K mg base CX0 4 (He.ga K "_law_patterns") spLawPats := by
  refine fnR0_of T.F_law_patterns sc_law_patterns (fun _ _ _ _ _ _ us hl => match us, hl with | [_, _, _], _ => rfl) (fun vs H Q E h => ?_) (fun cdv AA outer s H vs Q E hr h => ?_)
  · obtain ⟨a, n, m, c, rfl, _⟩ := h
    rfl
  obtain ⟨a, n, m, c, rfl, hp, hc, hn, hm, k⟩ := h
  refine ⟨_, (pss_cons (ps_set (i := 3) sc_law_patterns.nd rfl (Or.inr rfl) (pe_callR (ok_law_ofL (K := K) T) (hr.mono (by decide)) T.k_law_of rfl T.m_law_of pass0 (pa_cons (pv 0) (pa_cons (pe_lst (pa_cons pe_str (pa_cons pe_str (pa_cons pe_str pa_nil)))) pa_nil))))
      (pss_one (ps_ret (pe_callTy call_tuple_of (by rfl) T.z_tuple (by decide +kernel) (pa_cons (pe_lc (own := [("lap", 4)]) rfl sc_law_patterns.nd (pi_range1 rfl T.z_range (pa_cons (pe_callR (ok_law_take T) (hr.mono (by decide)) T.k_law_take rfl T.m_law_take pass0 (pa_cons (pv 0) (pa_cons (pe_op op_add (pv 2) pe_int) pa_nil))) pa_nil)) (blkOk_by (N := ["pot", "width", "most", "signs", "lap"]) (sc := defScope s_law_patterns) (by decide +kernel)) (fun _ _ _ _ _ => (pg_name (i := 4) sc_law_patterns.nd rfl (Or.inl rfl))) (fun _ _ _ _ _ => pts_nil) (fun _ _ _ _ _ => (pe_callR (ok_law_row T) (hr.mono (by decide)) T.k_law_row rfl T.m_law_row pass0 (pa_cons (pv 0) (pa_cons (pv 1) (pa_cons (pv 3) pa_nil)))))) pa_nil))))), ?_⟩
  obtain ⟨px, py, pz, hpa, hpr⟩ := id hp
  refine ⟨_, rfl, (by show 3 ≤ sizeLine; decide), fun q hq => ?_⟩
  have haq : a ≠ q := fun e => by rw [← e, hpa] at hq; cases hq
  refine ⟨a, q, _, c, rfl, hp.keep (Keeps.new hq _), by omega, upd_same, haq, by decide, by decide, fun x H1 hx K1 hp1 => ?_⟩
  have K01 : Keeps [a] H H1 := (Keeps.new hq _).trans K1
  obtain ⟨z, rfl, hz1, hz2, hz3⟩ : ∃ z : Str, x = V.str z ∧ 1 ≤ z.length ∧ z.length ≤ 1000 ∧ ∀ ch ∈ z.cps.toList, ch = 48 ∨ ch = 49 ∨ ch = 42 := by
    simp only [List.mem_cons, List.not_mem_nil, or_false] at hx
    rcases hx with rfl | rfl | rfl
    · exact ⟨_, rfl, by decide +kernel, by decide +kernel, by decide +kernel⟩
    · exact ⟨_, rfl, by decide +kernel, by decide +kernel, by decide +kernel⟩
    · exact ⟨_, rfl, by decide +kernel, by decide +kernel, by decide +kernel⟩
  refine ⟨_, rfl, _, rfl, _, _, rfl, rfl, a, _, c + 1, rfl, hp1, by omega, by omega, by omega, fun d H2 hd K2 hp2 => ?_⟩
  have K02 := K01.trans K2
  obtain ⟨qx, qy, qz, hqa, hqr⟩ := id hp2
  refine ⟨(d : Int), rfl, by omega, by omega, fun D hD => ?_⟩
  have haD : a ≠ D := fun e => by rw [← e, hqa] at hD; cases hD
  have hD0 : H D = none := K02.none hD (by simpa using fun e => haD e.symm)
  have hdm : d ≤ m := by omega
  have hmul : ∀ i : Nat, i ≤ d → n * i ≤ n * m := fun i hi => Nat.mul_le_mul_left n (by omega)
  have hnm : n * m ≤ 1600 := Nat.mul_le_mul hn hm
  refine lc_range (lo := 0) (n := ((d : Nat) : Int).toNat) (fun i H' => ∃ qs : List BT.Pat, qs.length = i ∧ (∀ q ∈ qs, q.length = n) ∧ H' D = some (.lst (txts qs)) ∧ Keeps [a] H H' ∧ Pot H' a (c + 2 + n * i))
    ⟨[], rfl, (by simp), upd_same, K02.trans (Keeps.new hD _), hp2.keep (Keeps.new hD _)⟩ ?_ ?_
  · rintro i H3 hi ⟨qs, hqs, hw, hD3, K3, hp3⟩
    have hi' : i < d := by omega
    have hm1 := hmul i (by omega)
    refine ⟨rfl, _, rfl, _, rfl, _, rfl, a, n, z, c + 2 + n * i, rfl, hp3, by omega, by omega, hz1, hz2, fun y H4 hy hin K4 hp4 => ?_⟩
    have hD4 := K4 D _ hD3 (by simpa using fun e => haD e.symm)
    obtain ⟨rx, ry, rz, hra, hrr⟩ := hp4
    have ey : txt (pat y) = y := txt_pat fun ch hch => hz3 ch (hin ch hch)
    refine ⟨_, hD4, by rw [List.length_map, hqs]; exact small1000 (by omega), qs ++ [pat y], by rw [List.length_append, hqs]; rfl, fun q hq => ?_, ?_, keeps_upd (K3.trans K4) hD0 _, ⟨rx, ry, rz, by rw [upd_ne haD]; exact hra, by have e : n * (i + 1) = n * i + n := Nat.mul_succ n i; rw [e]; omega⟩⟩
    · rcases List.mem_append.mp hq with h | h
      · exact hw q h
      · rw [List.mem_singleton.mp h, len_pat]; exact hy
    · rw [upd_same, txts, txts, List.map_append]
      show some (HO.lst (_ ++ [V.str y])) = some (HO.lst (_ ++ [V.str (txt (pat y))]))
      rw [ey]
  · rintro H3 ⟨qs, hqs, hw, hD3, K3, hp3⟩
    rw [Int.toNat_natCast] at hqs hp3
    refine ⟨D, _, rfl, .inl ⟨SqL.of hD3, fun b hb => ?_⟩⟩
    obtain ⟨rx, ry, rz, hra, hrr⟩ := id hp3
    have hab : b ≠ a := fun e => by rw [e, hra] at hb; cases hb
    exact k b qs _ (by omega) hw (K3.trans (Keeps.new hb _)) ((hp3.keep (Keeps.new hb _)).mono (by have := hmul d (by omega); omega)) (K3.none hb (by simpa using hab)) upd_same
end
end Wv

end
section
set_option maxRecDepth 100000
set_option maxHeartbeats 8000000
/-! the law's own defs: _law_put, _law_pot. Printed from K73U8.tpl by tm.py. -/
namespace Wv
open PySem PySem.Spec PyProof.Rows L2 LamX StX
def overL (bs : List Bool) (m : BT.Pat) : List Bool := List.zipWith (fun b o => o.getD b) bs m
def spLawPut : Sp := fun vs H Q _ => ∃ (bs : List Bool) (m : BT.Pat), vs = [.str (htxt bs), .str (txtC 61 m)] ∧ bs.length = m.length ∧ m.length ≤ 1000 ∧ ∀ H', Keeps [] H H' → Q (.str (htxt (overL bs m))) H'
def spLawPot (K : PySem.W.Frag) : Sp := fun vs H Q _ => ∃ (b : Addr) (ns : List Int), vs = [.ref b, .int 0] ∧ SqL K H b (ns.map V.int) ∧ ∀ (a : Addr) (H' : Hp), Keeps [] H H' → H a = none → Pot H' a 0 → Q (.ref a) H'
section
variable {P : Program} {w : World} {K : PySem.W.Frag} {mg : Str → Option Value} {base h : Heap} (T : Tp K mg w h)
include T
theorem ok_law_put : FnR P w K mg base CX0 1 (He.ga K "_law_put") spLawPut := by
  refine fnR0_of T.F_law_put sc_law_put (fun _ _ _ _ _ _ us hl => match us, hl with | [_, _], _ => rfl) (fun vs H Q E h => ?_) (fun cdv AA outer s H vs Q E hr h => ?_)
  · obtain ⟨bs, m, rfl, _⟩ := h
    rfl
  obtain ⟨bs, q, rfl, hl, hq, k⟩ := h
  refine ⟨_, (pss_one (ps_ret (pe_join pe_str (pe_lc (own := [("sign", 2), ("its", 3)]) rfl sc_law_put.nd (pi_zipS rfl T.z_zip (pa_cons (pv 0) (pa_cons (pv 1) pa_nil))) (blkOk_by (N := ["head", "mask", "sign", "its"]) (sc := defScope s_law_put) (by decide +kernel)) (fun _ _ _ _ _ => (pg_tupB K 2 rfl (by rfl) (pgs_cons (pg_name (i := 2) sc_law_put.nd rfl (Or.inl rfl)) (pgs_cons (pg_name (i := 3) sc_law_put.nd rfl (Or.inl rfl)) pgs_nil)))) (fun _ _ _ _ _ => pts_nil) (fun _ _ _ _ _ => (pe_ifExp (pt_cmpR op_eq (pv 3) pe_str (nomark _)) (pv 2) (pv 3))))))), ?_⟩
  refine ⟨⟨_, rfl⟩, _, rfl, _, rfl, htxt bs, txtC 61 q, rfl, fun D hD => ?_⟩
  have hn : min (htxt bs).cps.size (txtC 61 q).cps.size = q.length := by
    have e1 : (htxt bs).cps.size = bs.length := len_htxt bs
    have e2 : (txtC 61 q).cps.size = q.length := len_txtC 61 q
    rw [e1, e2, hl, Nat.min_self]
  rw [hn]
  have hlo : (overL bs q).length = q.length := by unfold overL; rw [List.length_zipWith]; omega
  refine lc_itf (fun i H' => Keeps [] H H' ∧ H' D = some (.lst (((overL bs q).take i).map fun b => V.str ⟨#[chC 42 (some b)]⟩))) ⟨Keeps.new hD _, upd_same⟩ ?_ ?_
  · rintro i T' H1 hi ⟨K1, hD1⟩ hT'
    have hbi : bs[i]? = some bs[i] := List.getElem?_eq_getElem (by omega)
    have hqi : q[i]? = some q[i] := List.getElem?_eq_getElem hi
    generalize bs[i] = b at hbi
    generalize q[i] = o at hqi
    have hf : (overL bs q)[i]? = some (o.getD b) := by
      unfold overL
      rw [List.getElem?_zipWith, hbi, hqi]
    have hh : zipF (htxt bs) (txtC 61 q) i = [.str ⟨#[chC 42 (some b)]⟩, .str ⟨#[chC 61 o]⟩] := by
      unfold zipF
      rw [txtC_getD (o := some b) (by rw [List.getElem?_map, hbi]; rfl), txtC_getD hqi]
    rw [hh]
    have hD2 : (upd H1 T' (.tup [V.str ⟨#[chC 42 (some b)]⟩, .str ⟨#[chC 61 o]⟩])) D = some (.lst (((overL bs q).take i).map fun b => V.str ⟨#[chC 42 (some b)]⟩)) := by rw [upd_ne (ne_of_none hD1 hT')]; exact hD1
    have K2 : Keeps [] H (upd H1 T' (.tup [V.str ⟨#[chC 42 (some b)]⟩, .str ⟨#[chC 61 o]⟩])) := K1.trans (Keeps.new hT' _)
    refine ⟨T', _, rfl, SqT.of upd_same, rfl, _, _, rfl, _, _, rfl, rfl, rfl, ?_⟩
    generalize upd H1 T' (.tup [V.str ⟨#[chC 42 (some b)]⟩, .str ⟨#[chC 61 o]⟩]) = H2 at hD2 K2 ⊢
    have hlenf : ((overL bs q).take i).length ≤ 1000 := by rw [List.length_take]; omega
    have fin : ∀ z : Str, z = ⟨#[chC 42 (some (o.getD b))]⟩ → ∃ acc, H2 D = some (.lst acc) ∧ acc.length < sizeLine ∧ (Keeps [] H (upd H2 D (.lst (acc ++ [V.str z]))) ∧ (upd H2 D (.lst (acc ++ [V.str z]))) D = some (.lst (((overL bs q).take (i + 1)).map fun b => V.str ⟨#[chC 42 (some b)]⟩))) := fun z hz =>
      ⟨_, hD2, by rw [List.length_map]; exact small1000 hlenf, keeps_put K2 hD _, by rw [upd_same, take_more hf, List.map_append, hz]; rfl⟩
    refine ⟨_, rfl, rfl, _, rfl, ?_⟩
    have es : Str.ofString "=" = ⟨#[61]⟩ := by decide +kernel
    cases o with
    | none =>
      refine iteT' (by rw [es]; exact decide_eq_true rfl) ?_
      exact ⟨_, rfl, fin _ rfl⟩
    | some c =>
      refine iteF' (by rw [es]; cases c <;> decide) ?_
      exact ⟨_, rfl, fin _ (by cases c <;> rfl)⟩
  · rintro H1 ⟨K1, hD1⟩
    have e : (overL bs q).take q.length = overL bs q := by rw [List.take_of_length_le]; omega
    rw [e] at hD1
    have hsum : ∀ q : List Bool, ((q.map fun b => (⟨#[chC 42 (some b)]⟩ : Str)).map (·.length)).sum = q.length := by
      intro q
      induction q with
      | nil => rfl
      | cons o q ih => rw [List.map_cons, List.map_cons, List.sum_cons, ih, List.length_cons]; show 1 + _ = _; omega
    refine ⟨_, D, (overL bs q).map fun b => (⟨#[chC 42 (some b)]⟩ : Str), rfl, rfl, .inl (SqL.of (by rw [hD1, List.map_map]; rfl)), ?_, ?_⟩
    · rw [hsum, List.length_map]
      have e : (Str.ofString "").length = 0 := by decide +kernel
      rw [e]
      omega
    have ej := join_txt 42 ((overL bs q).map some)
    rw [List.map_map] at ej
    rw [show (overL bs q).map (fun b => (⟨#[chC 42 (some b)]⟩ : Str)) = (overL bs q).map ((fun o => (⟨#[chC 42 o]⟩ : Str)) ∘ some) from rfl, ej]
    exact k _ K1
theorem ok_law_pot : FnR P w K mg base CX0 1 (He.ga K "_law_pot") (spLawPot K) := by
  refine fnR0_of T.F_law_pot sc_law_pot (fun _ _ _ _ _ _ us hl => match us, hl with | [_, _], _ => rfl) (fun vs H Q E h => ?_) (fun cdv AA outer s H vs Q E hr h => ?_)
  · obtain ⟨b, ns, rfl, _⟩ := h
    rfl
  obtain ⟨b, ns, rfl, hb, k⟩ := h
  refine ⟨_, (pss_cons (ps_set (i := 2) sc_law_pot.nd rfl (Or.inl rfl) (pe_ifExp (pt_cmpR op_lt (pv 1) (pe_callB call_len_seq (by rfl) T.z_len PySem.boot_len (pa_cons (pv 0) pa_nil)) (nomark _)) (pe_ix ix_list (pv 0) (pv 1) (fun _ _ => rfl)) (pe_op op_add (pe_op op_mul pe_int (pv 1)) pe_int)))
      (pss_cons (ps_set (i := 3) sc_law_pot.nd rfl (Or.inl rfl) (pe_op op_mul (pe_op op_mod (pe_callTy call_int1 (by rfl) T.z_int (by decide +kernel) (pa_cons (pe_callB call_abs (by rfl) T.z_abs (by decide +kernel) (pa_cons (pv 2) pa_nil)) pa_nil)) (pe_op op_powB (pe_op op_pow pe_int pe_int) pe_int)) (pe_callTy call_int1 (by rfl) T.z_int (by decide +kernel) (pa_cons (pe_cmpR op_ge (pe_callB call_abs (by rfl) T.z_abs (by decide +kernel) (pa_cons (pv 2) pa_nil)) (pe_op op_pow pe_int pe_int) (nomark _)) pa_nil))))
      (pss_cons (ps_set (i := 4) sc_law_pot.nd rfl (Or.inl rfl) (pe_op op_mod (pe_callTy call_int1 (by rfl) T.z_int (by decide +kernel) (pa_cons (pv 2) pa_nil)) pe_int))
      (pss_one (ps_ret (pe_lst (pa_cons (pv 3) (pa_cons (pe_op op_mod (pe_callTy call_int1 (by rfl) T.z_int (by decide +kernel) (pa_cons (pe_op op_add (pe_op op_add (pe_op op_mul (pv 4) pe_int) (pe_op op_mul (pe_op op_mul pe_int (pv 1)) (pv 1))) pe_int) pa_nil)) pe_int) (pa_cons pe_int pa_nil))))))))), ?_⟩
  have fin : ∀ (x v : Int) (a : Addr), H a = none → Q (.ref a) (upd H a (.lst [.int x, .int (v % 2305843009213693921), .int 0])) := fun x v a ha => by
    have g1 : 0 ≤ v % 2305843009213693921 := Int.emod_nonneg _ (by decide)
    have g2 : v % 2305843009213693921 < 2305843009213693921 := Int.emod_lt_of_pos _ (by decide)
    exact k a _ (Keeps.new ha _) ha ⟨x, _, 0, upd_same, g1, by omega, by decide, by decide⟩
  have hpow : (10 : Int) ^ (60 : Int).toNat = 1000000000000000000000000000000000000000000000000000000000000 := by decide +kernel
  have hpow2 : CPowB ((10 : Int) ^ (60 : Int).toNat) 5 := ⟨by decide, by rw [hpow]; decide +kernel⟩
  have hpos : (0 : Int) < ((10 : Int) ^ (60 : Int).toNat) ^ (5 : Int).toNat := by rw [hpow]; decide +kernel
  have hbl : ∀ (i : Int) (c : Bool), CMul i (if c then 1 else 0) := fun i c => by
    right
    cases c <;> decide
  refine ⟨_, rfl, _, rfl, b, _, rfl, .inl hb, _, _, rfl, rfl, _, rfl, ?_⟩
  refine ite2 (fun c => ?_) (fun c => ?_)
  · have hlen : 0 < ns.length := by have := of_decide_eq_true c; rw [List.length_map] at this; omega
    have hg : (ns.map V.int)[0]? = some (V.int ns[0]) := by rw [List.getElem?_map, List.getElem?_eq_getElem hlen]; rfl
    refine ⟨_, rfl, _, rfl, b, _, 0, _, rfl, rfl, hb, atI_nat (j := 0) hg, ?_⟩
    refine ⟨_, rfl, _, rfl, .inl ⟨_, rfl, _, _, rfl, rfl, ⟨by decide, by decide, by decide⟩, _, _, rfl, rfl, hpow2, _, _, rfl, rfl, hpos, ?_⟩⟩
    refine ⟨_, rfl, _, rfl, _, _, rfl, rfl, ⟨by decide, by decide, by decide⟩, _, _, rfl, rfl, .inr ⟨_, rfl, _, _, rfl, rfl, hbl _ _, ?_⟩⟩
    refine ⟨_, rfl, .inl ⟨_, rfl, _, _, rfl, rfl, (show (0 : Int) < 2305843009213693951 by decide), ?_⟩⟩
    refine ⟨_, rfl, _, rfl, _, _, rfl, rfl, .inr (by decide), _, rfl, _, _, rfl, rfl, .inl (by decide), _, rfl, _, _, rfl, rfl, .inl (by decide), _, _, rfl, rfl, _, _, rfl, rfl, .inl ⟨_, rfl, _, _, rfl, rfl, (show (0 : Int) < 2305843009213693921 by decide), (by show 3 ≤ sizeLine; decide), fun a ha => fin _ _ a ha⟩⟩
  · refine ⟨_, rfl, _, _, rfl, rfl, .inl (by decide), _, _, rfl, rfl, ?_⟩
    refine ⟨_, rfl, _, rfl, .inl ⟨_, rfl, _, _, rfl, rfl, ⟨by decide, by decide, by decide⟩, _, _, rfl, rfl, hpow2, _, _, rfl, rfl, hpos, ?_⟩⟩
    refine ⟨_, rfl, _, rfl, _, _, rfl, rfl, ⟨by decide, by decide, by decide⟩, _, _, rfl, rfl, .inr ⟨_, rfl, _, _, rfl, rfl, hbl _ _, ?_⟩⟩
    refine ⟨_, rfl, .inl ⟨_, rfl, _, _, rfl, rfl, (show (0 : Int) < 2305843009213693951 by decide), ?_⟩⟩
    refine ⟨_, rfl, _, rfl, _, _, rfl, rfl, .inr (by decide), _, rfl, _, _, rfl, rfl, .inl (by decide), _, rfl, _, _, rfl, rfl, .inl (by decide), _, _, rfl, rfl, _, _, rfl, rfl, .inl ⟨_, rfl, _, _, rfl, rfl, (show (0 : Int) < 2305843009213693921 by decide), (by show 3 ≤ sizeLine; decide), fun a ha => fin _ _ a ha⟩⟩
end
end Wv

end
section
set_option maxRecDepth 100000
set_option maxHeartbeats 4000000
/-! try: .. except C as e: .. where the suite's exception stays tracked behind the suite; the law's _law_heard. -/
namespace L2
open PySem PySem.Spec PyProof.Rows
/-- an exception object of the class cls at a, its dict d -/
def EXO (cls : Value) (d : Option Addr) (a : Addr) : HO := .ext fun h => ∃ (oe : Obj) (vs : Array Value), h.get? a = some oe ∧ Zc cls d oe ∧ oe.data = .fields vs
section
variable {X : Cx} {pins : List (Addr × Obj)} {σ : St} {H : Hp} {s : Shared}
/-- an object of ours that wasn't tracked is tracked from now on -/
theorem Inv.track {a : Addr} {oe : Obj} {vs : Array Value} {cls : Value} {d : Option Addr} (I : Inv X pins σ H s) (he : s.heap.get? a = some oe) (hz : Zc cls d oe) (hd : oe.data = .fields vs) (na : H a = none) (n0 : X.s_0.heap.get? a = none)
    (nL : a ≠ X.env.locals) (np : ∀ p ∈ X.pn ++ pins, p.1 ≠ a) : Inv X pins σ (upd H a (EXO cls d a)) s := by
  have nC : ∀ x c, X.env.cells.lookup x = some c → c ≠ a := fun x c e z => by
    obtain ⟨v, o, ho, hdc⟩ := I.cell x c e
    rw [z, he] at ho
    cases ho
    rw [hd] at hdc
    cases hdc
  refine ⟨I.ok, I.os, I.bare, ⟨I.base.keep, I.base.slot, fun b o e n hx => ?_, I.base.there, fun b xs e => ?_, fun b o u e => ?_, fun b ps e => ?_⟩, I.loc, I.cell, ?_, fun x c e => ?_, fun p hp => ?_, fun b u e => ?_, I.len⟩
  · have hb : b ≠ a := fun z => by rw [z, n0] at e; cases e
    rw [upd_ne hb]
    exact I.base.free b o e n hx
  · have q := I.base.tups b xs e
    rw [upd_ne (ne_of_none q na)]
    exact q
  · have q := I.base.frzs b o u e
    rw [upd_ne (ne_of_none q na)]
    exact q
  · obtain ⟨m, q⟩ := I.base.tbls b ps e
    exact ⟨m, by rw [upd_ne (ne_of_none q na)]; exact q⟩
  · rw [upd_ne (Ne.symm nL)]
    exact I.free
  · rw [upd_ne (nC x c e)]
    exact I.freeC x c e
  · obtain ⟨h1, h2, h3⟩ := I.pin p hp
    exact ⟨h1, by rw [upd_ne (np p hp)]; exact h2, h3⟩
  · by_cases hb : b = a
    · subst hb
      rw [upd_same] at e
      cases e
      exact ⟨⟨oe, vs, he, hz, hd⟩, ⟨oe, he⟩, fun _ _ ⟨o, v, q, r⟩ k => ⟨o, v, k o q, r⟩⟩
    · rw [upd_ne hb] at e
      exact (I.hok b u e).stay (fun c v _ q => q) (fun c q => by rw [upd_ne (ne_of_none q na)]; exact q) fun c xs q => by rw [upd_ne (ne_of_none q na)]; exact q
end
/-- what the clause wishes of an exception of the body: behind the suite the exception is tracked -/
def wKeep (K : PySem.W.Frag) (c : Value) (i : Nat) (ts : Addr → Value → Option Addr → TS) (D : Ends) : WX := fun cls d σ H =>
  PySem.W.exmOne K cls c = some true ∧ ∀ a, H a = none → ts a cls d { nx := fun σ' H' => H' a = none → D.nx (σ'.set i none) (upd H' a (EXO cls d a)), rt := fun _ _ => False, bk := fun _ _ => False, ct := fun _ _ => False } (σ.set i (some (.ref a))) H
section
variable {X : Cx} {x n : Str} {c : Value} {i : Nat} {body suite : List Stmt} {b₀ : Stmt} {np pos pos' : Pos} {tb : WX → TS} {ts : Addr → Value → Option Addr → TS}
theorem ps_try_keep (hs : X.stack = X.env :: X.outer) (hf : X.env.frame = some X.env.locals) (hex : X.ex = []) (hN : X.N.Nodup) (hi : X.N[i]? = some n) (hln : X.env.kindOf n = some .local) (hc : Names X x c)
    (hb : ∀ (W : WX) (pn : List (Addr × Obj)) (xe : Value → Shared → Prop), Takes (X.tr pn xe) W → PassesOwn (model X.prog X.w) X.A X.env xe → PSs (X.tr pn xe) body (tb W))
    (hsu : ∀ (a : Addr) (oe : Obj) (cls : Value) (d : Option Addr) (pn : List (Addr × Obj)), Zc cls d oe → (∃ vs, oe.data = .fields vs) → PSs (X.suite a ((a, oe) :: pn)) (b₀ :: suite) (ts a cls d)) :
    PS X (.Try body [.ExceptHandler (some (.Name x np)) (some n) (b₀ :: suite) pos'] [] [] pos) (fun D σ H => tb (wKeep X.K c i ts D) D σ H) := by
  refine ⟨fun pins s σ H D I h => ?_⟩
  have ok := I.ok
  have hfr : X.A.frames = some (X.env :: X.outer) := by rw [ok.frames, hs]
  have hloc : Loc X.env.scope n := .inl hln
  refine wpAny_Try_except ?_
  refine wpAny_mono ((hb (wKeep X.K c i ts D) (X.pn ++ pins) (fun e s₁ => wpAny (model X.prog X.w) X.A (noteFrame e X.env) (fun _ s₂ => wpAny (model X.prog X.w) X.A (setFlight e none) (fun _ s₃ =>
    wpAny (model X.prog X.w) X.A (handleBy e X.env [.ExceptHandler (some (.Name x np)) (some n) (b₀ :: suite) pos']) (SP X pins D) X.xe s₃) X.xe s₂) X.xe s₁) (fun u s' xx => ?_) PassesOwn.looking).run [] s σ H D (I.toTry _) h) (fun f s1 hsp => ?_) (fun e s1 he => he)
  · obtain ⟨a, B, sI, pins', σ', H', cls, d, rfl, J', nb, up, sky, na, os, ag, hb1, hyes⟩ := xx
    have J : Inv X pins σ' H' sI := J'.ofTry ok
    have sky' : Sky B (X.env :: X.outer) a (Zc cls d) X.env.locals s'.heap := by rw [← hs]; exact sky
    show wpAny (model X.prog X.w) X.A (noteFrame (.ref a) X.env) _ _ _
    refine Sky.land Zc.steady hfr hf sky' fun h3 fl3 up3 => ?_
    have J3 : Inv X pins σ' H' { s' with heap := h3 } := J.landed nb fl3.1 (up.trans up3) os ag
    obtain ⟨oe3, vs3, he3, hz3, hd3⟩ := fl3.there
    have nfr : a ∉ frs (X.env :: X.outer) := fun hm => by
      obtain ⟨_, o', e', hnf⟩ := fl3.2.2.1.mem hm
      rw [he3] at e'; cases e'
      exact hnf _ hd3
    have nL : a ≠ X.env.locals := fun z => nfr (List.mem_filterMap.mpr ⟨X.env, List.mem_cons_self, by rw [hf, z]⟩)
    have nF : a ∉ X.fs := fun hm => by
      obtain ⟨e, he, q⟩ := List.mem_filterMap.mp hm
      exact nfr (List.mem_filterMap.mpr ⟨e, List.mem_cons_of_mem _ he, q⟩)
    have nI : sI.heap.get? a = none := by
      cases q : sI.heap.get? a with
      | none => rfl
      | some o =>
        have := nb a o q (by rw [hs]; exact nfr)
        rw [fl3.2.1] at this
        cases this
    have n0 : X.s_0.heap.get? a = none := by
      cases q : X.s_0.heap.get? a with
      | none => rfl
      | some o =>
        obtain ⟨o', z⟩ := J.base.there a o q (by rw [hex]; exact fun z => nomatch z)
        rw [nI] at z
        cases z
    have npin : ∀ p ∈ X.pn ++ pins, p.1 ≠ a := fun p hp z => by
      have := (J.pin p hp).1
      rw [z, nI] at this
      cases this
    have S3 := J3.suite he3 hd3 na nL nF
    refine wpAny_handleBy_cons (codeAny_handlers_test ?_) (by intro q; cases q)
    have LT : PySem.W.Looks (model X.prog X.w) h3 (typeOf (.ref a)) cls := fun A Q E s k q => wpAny_typeOf_ref (k _ _ he3) (by rw [hz3.1]; exact q)
    have LM := PySem.W.exm_one (M := model X.prog X.w) (J3.kIn) LT hb1
    have test : ∀ {Q : Value → Shared → Prop} {E : Value → Shared → Prop}, Q c { s' with heap := h3 } → wpAny (model X.prog X.w) (X.A.mark (some (.ref a))) (eval (.Name x np) X.env) Q E { s' with heap := h3 } := fun {Q E} q => by
      obtain ⟨hg, hdbg, hm | ⟨hm, hv, hnn⟩⟩ := hc
      · exact ld_glob (X := X.suite a ((a, oe3) :: (X.pn ++ pins))) S3 hg hm q hdbg
      · exact ld_blt (X := X.suite a ((a, oe3) :: (X.pn ++ pins))) S3 hg hm hv q hnn hdbg
    refine test (LM.here ?_)
    refine codeAny_handlers_suite_as ?_
    refine HandSPX.lands_againZ fl3 fun h4 fl4 up4 => ?_
    have J4 : Inv X pins σ' H' { s' with heap := h4 } := J.landed nb fl4.1 ((up.trans up3).trans up4) os ag
    obtain ⟨oe4, vs4, he4, hz4, hd4⟩ := fl4.there
    have S4 := J4.suite he4 hd4 na nL nF
    refine store_ok (X := X.suite a ((a, oe4) :: (X.pn ++ pins))) (v := .ref a) S4 hN hi hloc rfl (fun s5 S5 => ?_) (.inr hln)
    refine wpAny_mono ((hsu a oe4 cls d (X.pn ++ pins) hz4 ⟨_, hd4⟩).run [] s5 _ H' _ S5 (hyes a na)) (fun f s6 hsp => ?_) (fun _ _ z => False.elim z)
    cases f with
    | next =>
      obtain ⟨σ6, H6, S6, q6⟩ := hsp
      obtain ⟨ge, ne, _⟩ := S6.pin (a, oe4) (List.mem_append_left _ List.mem_cons_self)
      have J6 : Inv X pins σ6 (upd H6 a (EXO cls d a)) s6 := (S6.unsuite ok).track ge hz4 hd4 ne n0 nL npin
      exact gone_ok J6 hN hi hln fun s7 J7 => ⟨_, _, J7, q6 ne⟩
    | brk =>
      obtain ⟨_, _, _, q6⟩ := hsp
      exact q6.elim
    | cont =>
      obtain ⟨_, _, _, q6⟩ := hsp
      exact q6.elim
    | ret u =>
      obtain ⟨_, _, _, _, _, q6⟩ := hsp
      exact q6.elim
  · cases f with
    | next =>
      obtain ⟨σ', H', J', q⟩ := hsp
      exact wpAny_execs_nil ⟨σ', H', J'.ofTry ok, q⟩
    | brk =>
      obtain ⟨σ', H', J', q⟩ := hsp
      exact ⟨σ', H', J'.ofTry ok, q⟩
    | cont =>
      obtain ⟨σ', H', J', q⟩ := hsp
      exact ⟨σ', H', J'.ofTry ok, q⟩
    | ret u =>
      obtain ⟨v, σ', H', J', r, q⟩ := hsp
      exact ⟨v, σ', H', J'.ofTry ok, r, q⟩
end
end L2

end
section
set_option maxRecDepth 100000
set_option maxHeartbeats 4000000
/-! isinstance(e, C), e.f of a caught error that is tracked; a def that is given a lambda and calls it within a try, told at the state it is called in. -/
namespace PySem.W
open PySem
theorem isQ_ans {x t : Value} {H : Heap → Prop} (ty : ∀ (M : Model) (h : Heap), H h → Looks M h (typeOf x) t) : Answers (fun s => H s.heap) x t true := by
  intro dep tk prog w A R s hs
  obtain ⟨h0, g, d, tt, os⟩ := s
  obtain ⟨p, hq⟩ := hs
  have LT := ty (model prog w) h0 p
  unfold Builtin.«isinstance.nested»
  refine wpAny_bind (LT.at ?_)
  rw [if_pos (show (t == t) = true by simp)]
  first
    | ((repeat lk); exact hq tt)
    | exact wpAny_bind (wpAny_rule (hq tt))
    | exact wpAny_bind (wpAny_rule (wpAny_pure (hq tt)))
theorem isQ_call {prog : Program} {w : World} {A : Around} {E : Value → Shared → Prop} {s : Shared} {Q : Value → Shared → Prop} {x t : Value} {H : Heap → Prop} (ty : ∀ (M : Model) (h : Heap), H h → Looks M h (typeOf x) t) (p : H s.heap)
    (hx : x ≠ .builtin "__main__.__loader__#opaque") (h : ∀ tk, Q (.bool true) { s with toks := tk }) : wpAny (model prog w) A (call (.builtin "isinstance") [x, t]) Q E s :=
  call_isinstance (S := fun _ R s => H s.heap ∧ ∀ tk, R (.ok (.ret (.bool true))) { s with toks := tk })
    (fun prog w A R s hs => isinstance_outer (isQ_ans ty 0 _ prog w A R s hs) hx) ⟨p, h⟩
end PySem.W
namespace L2
open PySem PySem.Spec PyProof.Rows
/-- isinstance(e, C), e a tracked error of the very class C -/
theorem call_isX {X : Cx} : CallR X (.builtin "isinstance") (fun xs H Q => ∃ (a C : Addr) (d : Option Addr), xs = [.ref a, .ref C] ∧ H a = some (EXO (.ref C) d a) ∧ Q (.bl true) H) := by
  intro pins s σ H xs us Q I r h
  obtain ⟨a, C, d, rfl, ha, q⟩ := h
  obtain ⟨u1, u2, rfl, r1, r2⟩ := vals2 r
  cases (show u1 = Value.ref a from r1)
  cases (show u2 = Value.ref C from r2)
  obtain ⟨⟨oe, vs, ho, hz, hd⟩, _, _⟩ := I.hok a _ ha
  exact PySem.W.isQ_call (H := fun h => ∃ oe, h.get? a = some oe ∧ oe.cls = .ref C) (fun M h ⟨oe, h1, h2⟩ => fun A Q E s k q => wpAny_typeOf_ref (k _ _ h1) (by rw [h2]; exact q)) ⟨oe, ho, hz.1⟩ (fun z => nomatch z) fun tk => ⟨.bl true, H, I.tok tk, rfl, q⟩
/-- e.f, e a tracked error -/
def tXfX (K : PySem.W.Frag) (f : Str) (te : TE) : TE := fun σ H Q => te σ H fun x H1 => ∃ (a C dd : Addr) (fs : List (Str × V)) (v : V), x = .ref a ∧ H1 a = some (EXO (.ref C) (some dd) a) ∧ XfC K C ∧ PySem.W.findIn K (.ref C) f = some none ∧ H1 dd = some (.xd fs) ∧ fs.lookup f = some v ∧ Q v H1
theorem pe_xfX {X : Cx} {e : Expr} {te : TE} {pos : Pos} {n : Str} (he : PE X e te) (hb : attributeBase e n X.env (eval e X.env) = eval e X.env := by rfl) : PE X (.Attribute e n pos) (tXfX X.K n te) := by
  refine ⟨fun pins s σ H Q I h => ?_⟩
  refine attr_of hb (thn (he.run pins s σ H _ I h) fun u s1 hh => ?_)
  obtain ⟨x, H1, I1, rx, a, C, dd, fs, v, ex, ha, T, hno, ea, l, q⟩ := hh
  subst ex
  obtain rfl : u = Value.ref a := rx
  obtain ⟨⟨oe, vs, ho, hz, hd⟩, _, _⟩ := I1.hok a _ ha
  have hx : ObjOk X.prog X.w H1 s1.heap dd (.xd fs) := I1.hok dd _ ea
  obtain ⟨mA, hns, hr⟩ := hx
  obtain ⟨od, hod, hl⟩ := lookIn_ns hns
  obtain ⟨u, hu, ru⟩ := RelO.some_of (v := v) (o := mA n) (by rw [← l]; exact hr n)
  have J : PySem.W.InstAt s1.heap a oe C (some od) := ⟨ho, hz.1, by unfold PySem.W.notCls; rw [hd] <;> rfl, by rw [hz.2]; exact hod⟩
  exact HandSPX.exc_get I1.kIn J T.ga T.gg T.exC (PySem.W.findObj_own T.hdC hno rfl (by rw [hl, hu])) (handed_of ru) ⟨v, H1, I1.tok _, ru, q⟩
/-- is, is not of two bools -/
theorem op_isT {X : Cx} : OpR X (compareOp .Is) (fun x y H Q => ∃ b c : Bool, x = .bl b ∧ y = .bl c ∧ Q (.bl (decide (b = c))) H) := by
  intro pins s σ H x y v u Q I rx ry h
  obtain ⟨b, c, rfl, rfl, q⟩ := h
  cases rx
  cases ry
  show wpAny _ _ ((isSame (.bool b) (.bool c)) >>= fun z => pure (Value.bool z)) _ _ s
  refine wpAny_bind (wpAny_isSame_plain rfl (wpAny_pure (fin_bl I q ?_)))
  cases b <;> cases c <;> rfl
theorem op_isNotT {X : Cx} : OpR X (compareOp .IsNot) (fun x y H Q => ∃ b c : Bool, x = .bl b ∧ y = .bl c ∧ Q (.bl (!decide (b = c))) H) := by
  intro pins s σ H x y v u Q I rx ry h
  obtain ⟨b, c, rfl, rfl, q⟩ := h
  cases rx
  cases ry
  show wpAny _ _ ((isSame (.bool b) (.bool c)) >>= fun z => pure (Value.bool (!z))) _ _ s
  refine wpAny_bind (wpAny_isSame_plain rfl (wpAny_pure (fin_bl I q ?_)))
  cases b <;> cases c <;> rfl
end L2

end
section
set_option maxRecDepth 100000
set_option maxHeartbeats 4000000
/-! x(lambda: body), x calls it within a try, told at the slots it is called with (HandS.Lambda's words, turned). -/
namespace LamX
open PySem PySem.Spec PyProof.Rows L2
section
variable {X : Cx} {pins : List (Addr × Obj)} {σ : L2.St} {H : Hp} {s : Shared}
theorem pe_act2 {CXg : CXT} {Eg : XK} {Ng : List Str} {qg : Str} {sg : Scope} {g f c' : Addr} {cdg pm ctv : Value} {params : Arguments} {body : Expr} {scope : Scope} {k i : Nat} {a : Str} {pn : List (Addr × Obj)} {xe : Value → Shared → Prop} {W : WX} {t : XK → TE} {p1 p2 : Pos}
    (I : Inv X pins σ H s) (L : LamS X.env.scope scope) (hf : s.heap.get? f = some (PySem.W.kla_obj "<lambda>" (X.env.qual ++ "<lambda>") params body scope (cloFrom X.env.cells scope.names []) pm c' ctv)) (hfn : H f = none) (hfr : f ∉ frs X.stack)
    (hbind : bindArgs (PySem.W.kla_fn "<lambda>" (X.env.qual ++ "<lambda>") params body scope (cloFrom X.env.cells scope.names []) pm (.ref c') ctv) ⟨[], []⟩ = pure [])
    (tk : Takes ((cxOf CXg X.prog X.w X.K X.mg X.base Ng qg sg g cdg X.A X.stack s H Eg).tr pn xe) W) (hr : Room (k + 1) (X.A.deeper (envOfC qg sg s.heap.objs.size g cdg)))
    (hbody : ∀ (A : Around) (outer : List Env) (s : Shared) (H : Hp) (E : XK), Room k (A.deeper (lamEnv X scope s.heap.objs.size f c')) → PE (lamCx X A outer s H E scope f c') body (t E))
    (hN : Ng[i]? = some a) (hv : Vis sg a) (hd : (a == ("__debug__" : Str)) = false := by decide) (hcd : (a == ("__classdict__" : Str)) = false := by decide) :
    PE ((cxOf CXg X.prog X.w X.K X.mg X.base Ng qg sg g cdg X.A X.stack s H Eg).tr pn xe) (.Call (.Name a p1) [] [] p2)
      (fun σZ HZ Q => σZ[i]? = some (some (.ref f)) ∧ HZ c' = some (CodeO c' (X.env.qual ++ "<lambda>")) ∧ t (fun cls d H' => W cls d σZ H') σ HZ Q) := by
  refine ⟨fun pinsZ sZ σZ HZ Q IZ h => ?_⟩
  obtain ⟨hs, hc, ht⟩ := h
  refine wpAny_Call_Name_kw (thn ((pe_var (pos := p1) (i := i) hN hv hd hcd).run pinsZ sZ σZ HZ (fun v H1 => v = .ref f ∧ H1 = HZ) IZ ⟨.ref f, hs, rfl, rfl⟩) fun u s1 ⟨v, H1, I1, r1, q1⟩ => ?_)
  obtain ⟨ev, eH⟩ := q1
  subst ev
  rw [eH] at I1
  obtain rfl : u = Value.ref f := r1
  have of1 : s1.heap.get? f = some (PySem.W.kla_obj "<lambda>" (X.env.qual ++ "<lambda>") params body scope (cloFrom X.env.cells scope.names []) pm c' ctv) := I1.base.keep f _ hf hfn hfr (fun z => nomatch (show f ∈ ([] : List Addr) from z))
  refine PySem.W.callWith_F0 ⟨_, _, _, _, of1⟩ ?_
  have un : Un (frs X.stack) [] H HZ s.heap s1.heap := I1.base
  obtain ⟨⟨oc, vs, tt, hoc, hdc, hvc⟩, _, _⟩ := I1.hok c' _ hc
  have rc : codeAny (model X.prog X.w) (X.A.deeper (envOfC qg sg s.heap.objs.size g cdg)) (.call (.ref f) ⟨[], []⟩) (CR (L2.CX X.prog X.w) (envOfC qg sg s.heap.objs.size g cdg :: X.stack) X.prog X.w HZ s1 Q (fun cls d H' => W cls d σZ H')) s1 := by
    refine PySem.W.kla_callFunE hr.depth of1 rfl L.co L.gen rfl ⟨c', oc, vs, tt, rfl, hoc, hdc, hvc⟩ ?_
    rw [hbind]
    refine wpAny_pure (wpAny_newFunctionEnv (fun y hy => (L.own y hy).2) (fun y hy => absurd hy (by simp)) (fun h₁ hns hsb => ⟨I1.nolimit.fresh _ hsb, ?_⟩) L.kind)
    show codeAny _ _ (.expr body (lamEnv X scope s1.heap.objs.size f c')) _ _
    have kp : ∀ b o, s1.heap.get? b = some o → h₁.get? b = some o := fun b o e => hsb.extBut b o (Nat.ne_of_lt (Heap.lt_size e)) (Heap.get?_push_of_some _ e)
    have J : Inv (lamCx X (X.A.deeper (envOfC qg sg s.heap.objs.size g cdg)) (envOfC qg sg s.heap.objs.size g cdg :: X.stack) s1 HZ (fun cls d H' => W cls d σZ H') scope f c') [] σ HZ { s1 with heap := h₁, toks := s1.toks + ([] : List (Str × Value)).length } :=
      lam_start2 I L I1.env0 hr.hd un hns kp
    refine PySem.W.kla_codeExpr (wpAny_mono ((hbody _ _ s1 HZ _ (hr.deeper _)).run [] _ _ HZ Q J ht) (fun v s' hq => ?_) fun e s' hq => hq)
    obtain ⟨w', H', J', rv, q⟩ := hq
    exact ⟨w', H', J'.os, J'.bare, J'.base, J'.hok, rv, q⟩
  refine wpAny_call (codeAny_mono rc fun r s' hq => ?_)
  cases r with
  | error e => exact tk e s' (XE.of_call I1 (fun _ _ _ h => h) hq)
  | ok fl =>
    cases fl with
    | ret u => exact I1.after hq
    | next => exact False.elim hq
    | brk => exact False.elim hq
    | cont => exact False.elim hq
end
/-- the def that calls what it got, told at the slots it calls it with -/
def GivesTo2 (X : Cx) (Ng : List Str) (x : Str) (sg : Scope) (g : Addr) (cdg : Value) (bg : List Stmt) (a : Str) (q : Str) (TT : (XK → Hp → VK → Prop) → Hp → VK → Prop) : Prop :=
  ∀ (f c' : Addr) (s : Shared) (H : Hp) (Q : VK) (tl : XK → Hp → VK → Prop),
    (∀ (W : WX) (pn : List (Addr × Obj)) (xe : Value → Shared → Prop) (p1 p2 : Pos), Takes ((cxOf C8.CX0 X.prog X.w X.K X.mg X.base Ng x sg g cdg X.A X.stack s H C8.E0).tr pn xe) W →
      PE ((cxOf C8.CX0 X.prog X.w X.K X.mg X.base Ng x sg g cdg X.A X.stack s H C8.E0).tr pn xe) (.Call (.Name a p1) [] [] p2) (fun σZ HZ Q => σZ[0]? = some (some (.ref f)) ∧ HZ c' = some (CodeO c' q) ∧ tl (fun cls d H' => W cls d σZ H') HZ Q)) →
    H c' = some (CodeO c' q) → TT tl H Q →
    ∃ t, PSs (cxOf C8.CX0 X.prog X.w X.K X.mg X.base Ng x sg g cdg X.A X.stack s H C8.E0).nox bg t ∧ t { nx := fun _ H' => Q .non H', rt := Q } (L2.start Ng [.ref f]) H
section
variable {X : Cx}
theorem pe_lamcall2 {T : List (Addr × Str)} {TT : (XK → Hp → VK → Prop) → Hp → VK → Prop} {x a : Str} {g c P : Addr} {k : Nat} {pg : Arguments} {bg : List Stmt} {sg : Scope} {dV kV doc pm cdv ct oc : Value} {an od : Option Addr} {osl : Array (Option Value)} {Ng : List Str}
    {params : Arguments} {body : Expr} {scope : Scope} {t : XK → TE} {p lpos pos : Pos} (hg : Gl X x) (hm : X.mg x = some (.ref g)) (hk : PySem.W.keepIn X.K (.ref g) = true)
    (lk : X.K.lookup g = some ⟨oc, od, .func (PySem.W.fnOf x x pg bg sg dV kV doc pm an cdv ct), osl⟩) (hcg : PySem.W.codeIn X.K cdv x = true) (hb : L2.Binds X.K (PySem.W.fnOf x x pg bg sg dV kV doc pm an cdv ct) [a] []) (Sg : FnScope Ng [a] sg) (hNg : Ng[0]? = some a) (hva : Vis sg a)
    (hG : GivesTo2 X Ng x sg g cdv bg a (X.env.qual ++ "<lambda>") TT)
    (TB : TabB X.base X.mg c P) (hcode : X.env.code = .ref c) (hmT : (P, X.env.qual ++ "<lambda>") ∈ T) (hu : ∀ p ∈ T, p.1 = P → p.2 = X.env.qual ++ "<lambda>") (hr : Room (k + 2) X.A) (L : LamS X.env.scope scope) (hdef : defaultsOf params X.env = ([], []))
    (hbind : ∀ (q : Str) (cl : List (Str × Addr)) (pm cv ctv : Value), bindArgs (PySem.W.kla_fn "<lambda>" q params body scope cl pm cv ctv) ⟨[], []⟩ = pure [])
    (hbody : ∀ (A : Around) (outer : List Env) (s : Shared) (H : Hp) (E : XK) (f c' : Addr), Room k (A.deeper (lamEnv X scope s.heap.objs.size f c')) → PE (lamCx X A outer s H E scope f c') body (t E))
    (hdb : (x == ("__debug__" : Str)) = false := by decide) (hd : (a == ("__debug__" : Str)) = false := by decide) (hcd : (a == ("__classdict__" : Str)) = false := by decide) :
    PE X (.Call (.Name x p) [.Lambda params body scope lpos] [] pos) (tLam T TT t) := by
  refine ⟨fun pins s σ H Q I h => ?_⟩
  obtain ⟨hT, h⟩ := h
  refine wpAny_Call_Name_kw (ld_glob I hg hm ?_ hdb)
  refine PySem.W.callWith_K (h₀ := X.base) I.ok.mod.kin hk ?_ (by rfl) (by rfl)
  show wpAny _ _ (spliced ((false, eval (.Lambda params body scope lpos) X.env) :: backTo pos (starEach [] X.env))) _ _ s
  refine Calls.spliced_cons (lam_make2 I TB hcode hmT hu hT hdef (L.has I.ok) fun f c' pm' ctv H1 s' I1 eN T1 hf hfn hfr hco => ?_)
  refine Calls.spliced_nil ⟨I1.kIn, ?_⟩
  have rc : codeAny (model X.prog X.w) X.A (.call (.ref g) ⟨[.ref f], []⟩) (CR C8.CX0 X.stack X.prog X.w H1 s' Q C8.E0) s' := by
    refine run_ofS (N := Ng) (ps := [a]) (us := [.ref f]) (vs := [.ref f]) lk hcg Sg hr I1.env0 (hb s' [.ref f] I1.kIn rfl) (.cons rfl .nil) rfl fun hr' => ?_
    obtain ⟨t', ht', hq'⟩ := hG f c' s' H1 Q (fun E H' Q' => t E σ H' Q') (fun W pn xe p1 p2 tk => pe_act2 (i := 0) I1 L hf hfn hfr (hbind _ _ _ _ _) tk hr' (fun A outer s H E hr2 => hbody A outer s H E f c' hr2) hNg hva hd hcd) hco (h H1 eN T1)
    exact ⟨t', ht'.nox, hq'⟩
  refine wpAny_call (codeAny_mono rc fun r s2 hq => ?_)
  cases r with
  | error e => exact (show False from hq).elim
  | ok fl =>
    cases fl with
    | ret u => exact I1.after hq
    | next => exact False.elim hq
    | brk => exact False.elim hq
    | cont => exact False.elim hq
end
end LamX

end
section
set_option maxRecDepth 100000
set_option maxHeartbeats 2000000
/-! A def's promise with its function object, and its code object the one that the head's facts name. -/
namespace L2
open PySem PySem.Spec PyProof.Rows
variable {P : Program} {w : World} {K : PySem.W.Frag} {mg : Str → Option Value} {base : Heap} {f : Addr} {x qual : Str} {params : Arguments} {body : List Stmt} {scope : Scope}
theorem fnOk0_ofC {N ps : List Str} {k : Nat} {sp : Sp} {d : Str × Option Str} {fd : FuncData} (F : FunD K x qual params body scope [] [] (He.fAd K d) fd) (S : FnScope N ps scope)
    (len : ∀ vs H Q E, sp vs H Q E → vs.length = ps.length)
    (hbody : ∀ (cdv : Value) (A : Around) (outer : List Env) (s : Shared) (H : Hp) (vs : List V) (Q : VK) (E : XK), cdv = .ref (He.codeOf K d) → Room k (A.deeper (envOfC qual scope s.heap.objs.size (He.fAd K d) cdv)) → sp vs H Q E →
      ∃ t, PSs (cxOf CX0 P w K mg base N qual scope (He.fAd K d) cdv A outer s H E).nox body t ∧ t { nx := fun _ H' => Q .non H', rt := Q } (start N vs) H) : FnOk P w K mg base CX0 (k + 1) (He.fAd K d) fd ps sp := by
  obtain ⟨oc, od, dV, kV, doc, pm, an, cdv, ct, osl, rfl, lk, hcd, _, _⟩ := F.ex
  obtain ⟨c, ec⟩ := He.codeIn_ref hcd
  have e2 := He.codeOf_eq lk ec
  exact fn_of lk hcd S len fun A outer s H vs Q E hr hsp => by
    obtain ⟨t, h1, h2⟩ := hbody cdv A outer s H vs Q E (by rw [e2]; exact ec) hr hsp
    exact ⟨t, h1.nox, h2⟩
end L2

end
section
set_option maxRecDepth 100000
set_option maxHeartbeats 8000000
/-! the law's own defs: _law_heard, law. Printed from K73U9.tpl by tm.py. -/
namespace Wv
open PySem PySem.Spec PyProof.Rows L2 LamX StX
/-- what _law_heard makes of its lambda's reading -/
def TTheard (K : PySem.W.Frag) (NE : Addr) : (XK → Hp → VK → Prop) → Hp → VK → Prop := fun tl H Q => ∀ (p : Addr) (E : XK) (Q' : VK), H p = none →
  (∀ cls d H', (PySem.W.exmOne K cls (.ref NE) = some true ∧ ∀ a q, H' a = none → (upd H' a (EXO cls d a)) q = none → Q (.ref q) (upd (upd H' a (EXO cls d a)) q (.tup [.ref a, .non]))) → E cls d H') →
  (∀ v H', (∀ q, H' q = none → Q (.ref q) (upd H' q (.tup [.non, v]))) → Q' v H') → tl E (upd H p (.tup [.non, .non])) Q'
theorem heard_gives {X : Cx} {g NE : Addr} {cdg : Value} {q : Str} (hm : X.mg "NetError" = some (.ref NE)) :
    GivesTo2 X ["look", "caught", "told", "error"] "_law_heard" (defScope s_law_heard) g cdg (defBody s_law_heard) "look" q (TTheard X.K NE) := by
  intro f c' s H Q tl act hc h
  have nd : (["look", "caught", "told", "error"] : List Str).Nodup := by decide +kernel
  refine ⟨_, pss_cons (ps_asg (pe_tup (pa_cons pe_non (pa_cons pe_non pa_nil))) (pg_tup (by rfl) (pgs_cons (pg_name (i := 1) nd rfl (Or.inl rfl)) (pgs_cons (pg_name (i := 2) nd rfl (Or.inl rfl)) pgs_nil))))
    (pss_cons (ps_try_keep (X := (cxOf C8.CX0 X.prog X.w X.K X.mg X.base ["look", "caught", "told", "error"] "_law_heard" (defScope s_law_heard) g cdg X.A X.stack s H C8.E0).nox) (c := .ref NE) (i := 3)
      (tb := fun W => tAsg (fun σ H Q => σ[0]? = some (some (.ref f)) ∧ H c' = some (CodeO c' q) ∧ tl (fun cls d H' => W cls d σ H') H Q) (gName 2))
      (ts := fun a cls d => tAsg (tVar 3) (gName 1)) rfl rfl rfl nd rfl rfl ⟨rfl, by decide, .inl hm⟩ (fun W pn xe tk _ => pss_one (ps_set (i := 2) nd rfl (Or.inl rfl) (act W pn xe _ _ tk))) (fun a oe cls d pn _ _ => pss_one (ps_set (i := 1) nd rfl (Or.inl rfl) (pv 3))))
    (pss_one (ps_ret (pe_tup (pa_cons (pv 1) (pa_cons (pv 2) pa_nil)))))), ?_⟩
  refine ⟨(by show 2 ≤ sizeLine; decide), fun p hp => ?_⟩
  refine ⟨p, _, rfl, SqT.of upd_same, rfl, _, _, rfl, _, _, rfl, rfl, ?_⟩
  refine ⟨rfl, by rw [upd_ne (ne_of_none hc hp)]; exact hc, h p _ _ hp (fun cls d H' hh => ?_) (fun v H' hh => ?_)⟩
  · refine ⟨hh.1, fun a ha => ?_⟩
    refine ⟨_, rfl, fun _ => ?_⟩
    exact ⟨_, rfl, _, rfl, (by show 2 ≤ sizeLine; decide), fun q hq => hh.2 a q ha hq⟩
  · exact ⟨_, rfl, _, rfl, (by show 2 ≤ sizeLine; decide), fun q hq => hh q hq⟩
/-- what the law asks of its own error's class -/
structure LawX (K : PySem.W.Frag) : Prop where
  ne : PySem.W.exmOne K (.ref (He.ga K "TooMany")) (.ref (He.ga K "NetError")) = some true
  xf : XfC K (He.ga K "TooMany")
/-- _law_right: True, or TooMany(4000) -/
def spRight (K : PySem.W.Frag) : Sp := fun vs H Q E => ∃ a : Addr, vs = [.ref a] ∧ Pot H a 0 ∧ Tabs (TT K) H ∧ (∀ H', Q (.bl true) H') ∧ Boom K E
def spLaw (K : PySem.W.Frag) : Sp := fun vs H Q _ => ∃ (b : Addr) (ns : List Int), vs = [.ref b] ∧ SqL K H b (ns.map V.int) ∧ Tabs (TT K) H ∧ ∀ H', Q (.bl true) H'
section
variable {P : Program} {w : World} {K : PySem.W.Frag} {mg : Str → Option Value} {base h : Heap} (T : Tp K mg w h)
include T
theorem ok_law {fd : FuncData} (F : FunD K "law" "law" (defArgs s_law) (defBody s_law) (defScope s_law) [] [] (He.ga K "law") fd) (TB : ∀ q ∈ tf, TabB base mg (He.cT K q).1 (He.cT K q).2) (N : Ne P K) (LX : LawX K) (R : FnR P w K mg base (L2.CX P w) 40 (He.ga K "_law_right") (spRight K)) : FnOk P w K mg base CX0 50 (He.ga K "law") fd ["script"] (spLaw K) := by
  obtain ⟨fdH, FH⟩ := T.F_law_heard
  have bH := FH.bindsN (ps := ["look"]) (fun _ _ _ _ _ _ us hl => match us, hl with | [_], _ => rfl)
  obtain ⟨ocH, odH, dVH, kVH, docH, pmH, anH, cdvH, ctH, oslH, eH, lkH, hcdH, hdH, hkH⟩ := FH.ex
  subst eH
  refine fnOk0_ofC (d := ("law", none)) F sc_law (fun vs H Q E h => ?_) (fun cdv AA outer s H vs Q E hcdv hr h => ?_)
  · obtain ⟨b, ns, rfl, _⟩ := h
    rfl
  subst hcdv
  obtain ⟨b, ns, rfl, hb, hT, k⟩ := h
  have hne : (He.cT K ("Trees", some "below")).2 ≠ (He.cT K ("law", none)).2 := T.tabNe
  refine ⟨_, (pss_cons (ps_set (i := 1) sc_law.nd rfl (Or.inr rfl) (pe_callR (ok_law_pot T) (hr.mono (by decide)) T.k_law_pot rfl T.m_law_pot pass0 (pa_cons (pv 0) (pa_cons pe_int pa_nil))))
      (pss_cons (ps_asg (pe_lamcall2 (T := TT K) (TT := TTheard K (He.ga K "NetError")) (k := 41) rfl T.m_law_heard T.k_law_heard lkH hcdH bH sc_law_heard rfl (Or.inl rfl) (heard_gives T.m_NetError) (TB ("law", none) (by simp [tf])) rfl (by unfold TT; exact List.mem_cons_of_mem _ List.mem_cons_self) (by intro q hq e; simp only [TT, List.mem_cons, List.not_mem_nil, or_false] at hq; rcases hq with rfl | rfl; exact absurd e hne; rfl) (hr.mono (by decide)) (lamS_by (by rfl)) rfl (fun _ _ _ _ _ => rfl) (fun A outer s H E f c' hr2 => pe_callR R (hr2.mono (by decide)) T.k_law_right rfl T.m_law_right (passE (takes_of rfl rfl rfl rfl)) (pa_cons (pv 1) pa_nil))) (pg_tup (by rfl) (pgs_cons (pg_name (i := 2) sc_law.nd rfl (Or.inl rfl)) (pgs_cons (pg_name (i := 3) sc_law.nd rfl (Or.inl rfl)) pgs_nil))))
      (pss_one (ps_ret (pe_ifExp (pt_cmpR op_isN (pv 2) pe_non (nomark _)) (pe_cmpR op_isT (pv 3) pe_bl (nomark _)) (pe_and (pe_callB call_isX (by rfl) T.z_isinstance (by decide +kernel) (pa_cons (pv 2) (pa_cons (pe_glob (v := .ref (He.ga K "TooMany")) (by rfl) T.m_TooMany rfl) pa_nil))) (pe_one (pe_cmpR op_eq (pe_xfX (pv 2)) pe_int (nomark _))))))))), ?_⟩
  refine ⟨_, rfl, b, ns, rfl, hb, fun a H1 K1 ha hp => ?_⟩
  refine ⟨tabs_keep hT K1, fun H2 eN hT2 => fun p E' Q' hp2 hE hQ => ?_⟩
  have K2 : KeepX [] H1 H2 := KeepX.ofN eN
  refine ⟨_, rfl, a, rfl, (hp.keepX K2).keep (Keeps.new hp2 _), tabs_new hT2 hp2 _, fun H' => hQ _ _ fun q hq => ?_, fun d H' hd => hE _ _ _ ⟨LX.ne, fun e q he hq => ?_⟩⟩
  · refine ⟨q, _, rfl, SqT.of upd_same, rfl, _, _, rfl, _, _, rfl, rfl, ?_⟩
    refine ⟨_, rfl, rfl, _, rfl, ?_⟩
    refine iteT' rfl ?_
    exact ⟨_, rfl, _, _, rfl, rfl, k _⟩
  · have hx : (upd (upd H' e (EXO (.ref (He.ga K "TooMany")) (some d) e)) q (.tup [.ref e, .non])) e = some (EXO (.ref (He.ga K "TooMany")) (some d) e) := by
      rw [upd_ne (ne_of_none (upd_same : upd H' e _ e = _) hq), upd_same]
    have hde : d ≠ e := fun z => by rw [z, he] at hd; cases hd
    have hd1 : (upd H' e (EXO (.ref (He.ga K "TooMany")) (some d) e)) d = some (.xd [(("value" : Str), V.int 4000)]) := by rw [upd_ne hde]; exact hd
    have hd2 : (upd (upd H' e (EXO (.ref (He.ga K "TooMany")) (some d) e)) q (.tup [.ref e, .non])) d = some (.xd [(("value" : Str), V.int 4000)]) := by rw [upd_ne (ne_of_none hd1 hq)]; exact hd1
    refine ⟨q, _, rfl, SqT.of upd_same, rfl, _, _, rfl, _, _, rfl, rfl, ?_⟩
    refine ⟨_, rfl, rfl, _, rfl, ?_⟩
    refine iteF' rfl ?_
    refine ⟨_, rfl, e, _, _, rfl, hx, true, rfl, ?_⟩
    refine iteT' rfl ?_
    exact ⟨_, rfl, e, _, d, _, _, rfl, hx, LX.xf, N.noN, hd2, rfl, rfl, k _⟩
end
end Wv

end
section
set_option maxRecDepth 100000
set_option maxHeartbeats 4000000
/-! t[::-1] of a tuple; a text times a number. -/
namespace HT
open PySem PySem.Spec PyProof.Rows
section
variable {prog : Program} {w : World} {A : Around} {E : Value → Shared → Prop} {s : Shared}
theorem adjust_rev (n : Nat) : Builtin.Slice.sliceAdjust none none (-1) (n : Int) = ((n : Int) - 1, -1) := by
  unfold Builtin.Slice.sliceAdjust
  simp
theorem places_rev (n : Nat) : Builtin.Slice.slicePlaces ((n : Int) - 1) (-1) (-1) = n := by
  unfold Builtin.Slice.slicePlaces
  simp only [show ¬ ((-1 : Int) > 0) by decide, if_false, Int.neg_neg, Int.ediv_one]
  split <;> omega
theorem pick_rev (xs : Array Value) : ((List.range xs.size).filterMap fun (m : Nat) => xs[(((xs.size : Int) - 1) + (m : Int) * -1).toNat]?).toArray = xs.toList.reverse.toArray := by
  have e : ((List.range xs.size).filterMap fun (m : Nat) => xs[(((xs.size : Int) - 1) + (m : Int) * -1).toNat]?) = ((List.range xs.size).map fun k => xs.size - 1 - k).filterMap (xs[·]?) := by
    rw [List.filterMap_map]
    congr 1
    funext m
    have : (((xs.size : Int) - 1) + (m : Int) * -1).toNat = xs.size - 1 - m := by omega
    rw [this]
    rfl
  rw [e, PySem.W.krv_range, List.filterMap_reverse, PySem.W.krv_all]
theorem getItem_tuple_rev {t sl : Addr} {items : Array Value} {vl vu vs : Value} {Q : Value → Shared → Prop} (ht : IsTup s.heap t items) (hs : s.heap.IsSliceOf sl vl vu vs) (pl : IsPart vl none) (pu : IsPart vu none) (ps : IsPart vs (some (-1)))
    (h : Q (.ref s.heap.objs.size) { s with heap := s.heap.push { cls := .type "tuple", data := .seq items.toList.reverse.toArray } })
    (hsz : items.size ≤ sizeLine) : wpAny (model prog w) A (getItem (.ref t) (.ref sl)) Q E s := by
  have htake : sizeOk (.seq items.toList.reverse.toArray) := by
    show items.toList.reverse.toArray.size ≤ sizeLine
    rw [List.size_toArray, List.length_reverse, Array.length_toList]
    exact hsz
  obtain ⟨os, hos, hcs, hds⟩ := id hs
  have hTs : s.TypeIs (.ref sl) "slice" := ⟨os, hos, hcs⟩
  unfold getItem
  try with_reducible refine wpAny_holding ?_
  first | refine wpAny_bind (wpAny_pure ?_) | skip
  refine wpAny_bind (wpAny_sequenceKey ht.typeIs (by decide) ?_)
  refine wpAny_bind (wpAny_callSpecial?_slot (name := Str.ofString "__getitem__") ht.typeIs PyProof.Rows.slot_tuple_getitem
    (wpAny_call_entry PyProof.Rows.slot_tuple_getitem ht.typeIs entry_tuple_getitem ?_ (args_tuple_getitem _ _)))
  show wpAny _ _ (Builtin.Tuple.tupleItemsOf (.ref t) >>= _) _ _ s
  refine wpAny_bind (tupleItemsOf_ ht ?_)
  refine wpAny_bind (wpAny_typeOf hTs ?_)
  rw [if_pos (by decide)]
  refine wpAny_bind ?_
  unfold Builtin.Slice.sliceApplied Builtin.Slice.sliceFields
  refine wpAny_bind (wpAny_bind (wpAny_field hos hds (x := vl) rfl (wpAny_bind (wpAny_field hos hds (x := vu) rfl (wpAny_bind (wpAny_field hos hds (x := vs) rfl (wpAny_pure ?_)))))))
  refine wpAny_bind (slicePart_ ps ?_)
  show wpAny _ _ (if ((-1 : Int) == 0) = true then _ else _) _ _ s
  rw [if_neg (by decide)]
  refine wpAny_bind (slicePart_ pl (wpAny_bind (slicePart_ pu (wpAny_bind (wpAny_pure ?_)))))
  show wpAny _ _ (match Builtin.Slice.sliceAdjust none none (-1) (items.size : Int) with | (lo, hi) => pure (lo, (-1 : Int), Builtin.Slice.slicePlaces lo hi (-1))) _ _ s
  rw [adjust_rev]
  show wpAny _ _ (pure (((items.size : Int) - 1), (-1 : Int), Builtin.Slice.slicePlaces ((items.size : Int) - 1) (-1) (-1))) _ _ s
  rw [places_rev]
  refine wpAny_pure ?_
  have hno : ¬ ((((items.size : Int) - 1) == 0 && (-1 : Int) == 1 && items.size == items.size) = true) := by simp
  show wpAny _ _ (if (((items.size : Int) - 1) == 0 && (-1 : Int) == 1 && items.size == items.size) = true then _ else _) _ _ s
  rw [if_neg hno, pick_rev]
  first
    | exact wpAny_bind (m := Builtin.Tuple.tupleExact _) (wpAny_newObj_type (wpAny_pure ⟨_, rfl, wpAny_pure h⟩) htake)
    | exact wpAny_bind (m := Builtin.Tuple.tupleExact _) (wpAny_newObj_type (wpAny_bind (wpAny_pure (wpAny_pure ⟨_, rfl, wpAny_pure h⟩))) htake)
    | exact wpAny_bind (wpAny_bind (m := Builtin.Tuple.tupleExact _) (wpAny_newObj_type (wpAny_pure (wpAny_pure ⟨_, rfl, wpAny_pure h⟩)) htake))
    | exact wpAny_bind (wpAny_bind (m := Builtin.Tuple.tupleExact _) (wpAny_newObj_type (wpAny_pure ⟨_, rfl, wpAny_pure h⟩) htake))
end
end HT
namespace L2
open PySem PySem.Spec PyProof.Rows
section
variable {X : Cx}
def tRevT (K : PySem.W.Frag) (te : TE) : TE := fun σ H Q => te σ H fun x H1 => ∃ a xs, x = .ref a ∧ SqT K H1 a xs ∧ ∀ p, H1 p = none → Q (.ref p) (upd H1 p (.tup xs.reverse))
theorem pe_revT {e : Expr} {te : TE} {k : Nat} {p1 p2 p3 pos : Pos} (he : PE X e te) : PE X (.Subscript e (.Slice none none (some (.UnaryOp .USub (.Constant (.int 1) k p1) p2)) p3) pos) (tRevT X.K te) := by
  refine ⟨fun pins s σ H Q I h => ?_⟩
  refine Subscript_ (thn (he.run pins s σ H _ I h) fun v s1 ⟨x, H1, I1, r1, q1⟩ => ?_)
  obtain ⟨a, xs, ex, hx, q⟩ := q1
  subst ex
  cases r1
  have hst : PO X (some (.UnaryOp .USub (.Constant (.int 1) k p1) p2)) (tPart (tUn (rU fun i => .int (-i)) (tC (.int 1)))) := po_some (pe_un un_neg pe_int)
  refine wpAny_Slice (thn (po_none.run pins s1 σ H1 (fun o H2 => o = none ∧ H2 = H1) I1 ⟨rfl, rfl⟩) fun vl s2 ⟨l, H2, I2, pl, el, e2⟩ => ?_)
  subst el e2
  refine thn (po_none.run pins s2 σ H2 (fun o H3 => o = none ∧ H3 = H2) I2 ⟨rfl, rfl⟩) fun vu s3 ⟨u, H3, I3, pu, eu, e3⟩ => ?_
  subst eu e3
  refine thn (hst.run pins s3 σ H3 (fun o H4 => o = some (-1) ∧ H4 = H3) I3 ⟨1, rfl, -1, rfl, rfl, rfl⟩) fun vs s4 ⟨o, H4, I4, ps, eo, e4⟩ => ?_
  subst eo e4
  have I5 : Inv X pins σ H4 { s4 with heap := s4.heap.push { cls := .type "slice", data := .fields #[vl, vu, vs] } } := I4.kept (t' := s4.toks) fun b ob q => Heap.get?_push_of_some _ q
  obtain ⟨its, r, ht, hz⟩ := I5.tuple hx
  have hlen := r.length
  show wpAny (model X.prog X.w) X.A (subscriptTail e (.Slice none none (some (.UnaryOp .USub (.Constant (.int 1) k p1) p2)) p3) (.ref a) (.ref s4.heap.objs.size)) (EP X pins σ Q) X.xe { s4 with heap := s4.heap.push { cls := .type "slice", data := .fields #[vl, vu, vs] } }
  refine tail_any (ops := [.ref a, .ref s4.heap.objs.size]) ht.typeIs (PyProof.Rows.slot_tuple_getitem.lookup) ?_ (by with_unfolding_all rfl)
  refine HT.getItem_tuple_rev ht (Heap.IsSliceOf.new _ vl vu vs) pl pu ps ?_ (by rw [List.size_toArray]; omega)
  refine ⟨.ref _, _, I5.laid (t' := s4.toks) (o := .tup xs.reverse) (fun b ob q => Heap.get?_push_of_some _ q) (Nat.le_refl _) ?_, rfl, q _ (I5.hok.fresh (Nat.le_refl _))⟩
  exact ⟨by rw [List.length_reverse]; exact hz, _, r.reverse, IsTup.new _ _⟩
theorem small_line : 1000000 < sizeLine := by rw [sizeLine_eq]; decide
/-- a text times a number -/
theorem op_mulS : OpR X (binaryOp .Mult) (fun x y H Q => ∃ (z : Str) (n : Int), x = .str z ∧ y = .int n ∧ 1 ≤ n ∧ n ≤ 1000 ∧ z.length ≤ 1000 ∧ Q (.str (Txt.mul z n)) H) := by
  intro pins s σ H x y v u Q I rx ry h
  obtain ⟨z, n, rfl, rfl, h1, h2, hz, q⟩ := h
  obtain ⟨t, rfl⟩ := rx
  obtain ⟨t', rfl⟩ := ry
  refine SB.mul ⟨?_, fun _ _ => ?_, fun _ _ => ?_⟩ fun t2 k => ⟨.str (Txt.mul z n), H, I.tok _, ⟨_, rfl⟩, q⟩
  · simp
    omega
  · have : (1000 : Int) ≤ (2 ^ 63 - 1) / n := by
      rw [Int.le_ediv_iff_mul_le (by omega)]
      have : (2 : Int) ^ 63 = 9223372036854775808 := by decide
      omega
    omega
  · have hl : z.length * n.toNat ≤ 1000 * 1000 := Nat.mul_le_mul hz (by omega)
    show decide (_ > sizeLine) = false
    refine decide_eq_false ?_
    have := small_line
    omega
end
end L2

end
section
/-! How many parts the union of few patterns, and its complement, has at most. Plain mathematics. -/
namespace Wv
namespace BT
def restr (b : Bool) : List Pat → List Pat
  | [] => []
  | [] :: ps => restr b ps
  | (none :: p) :: ps => p :: restr b ps
  | (some c :: p) :: ps => if c = b then p :: restr b ps else restr b ps
theorem restr_len (b : Bool) : ∀ ps : List Pat, (restr b ps).length ≤ ps.length
  | [] => Nat.le_refl _
  | [] :: ps => Nat.le_succ_of_le (restr_len b ps)
  | (none :: p) :: ps => Nat.succ_le_succ (restr_len b ps)
  | (some c :: p) :: ps => by
    rw [restr]
    split
    · exact Nat.succ_le_succ (restr_len b ps)
    · exact Nat.le_succ_of_le (restr_len b ps)
theorem restr_width (b : Bool) {n : Nat} : ∀ ps : List Pat, (∀ p ∈ ps, p.length = n + 1) → ∀ p ∈ restr b ps, p.length = n
  | [], _, p, hp => by cases hp
  | [] :: ps, h, p, hp => absurd (h [] List.mem_cons_self) (by simp)
  | (none :: q) :: ps, h, p, hp => by
    rw [restr] at hp
    rcases List.mem_cons.mp hp with rfl | hp
    · have := h _ (List.mem_cons_self); simpa using this
    · exact restr_width b ps (fun r hr => h r (List.mem_cons_of_mem _ hr)) p hp
  | (some c :: q) :: ps, h, p, hp => by
    rw [restr] at hp
    split at hp
    · rcases List.mem_cons.mp hp with rfl | hp
      · have := h _ (List.mem_cons_self); simpa using this
      · exact restr_width b ps (fun r hr => h r (List.mem_cons_of_mem _ hr)) p hp
    · exact restr_width b ps (fun r hr => h r (List.mem_cons_of_mem _ hr)) p hp
theorem fit_ind (p : Pat) : ∀ (i j : Nat) (b : Bool) (r : Row), j < i → fit i p (st r j b) = fit i p r := by
  induction p with
  | nil => intro i j b r _; rfl
  | cons o p ih =>
    intro i j b r h
    cases o with
    | none => exact ih (i + 1) j b r (by omega)
    | some c =>
      show ((st r j b i == c) && fit (i + 1) p (st r j b)) = ((r i == c) && fit (i + 1) p r)
      rw [st_ne r b (by omega), ih (i + 1) j b r (by omega)]
theorem restr_den (b : Bool) (l : Nat) (r : Row) : ∀ ps : List Pat, (∀ p ∈ ps, p ≠ []) → ps.any (fit l · (st r l b)) = (restr b ps).any (fit (l + 1) · r)
  | [], _ => rfl
  | [] :: ps, h => absurd rfl (h [] List.mem_cons_self)
  | (none :: p) :: ps, h => by
    rw [restr, List.any_cons, List.any_cons, restr_den b l r ps fun q hq => h q (List.mem_cons_of_mem _ hq)]
    show (fit (l + 1) p (st r l b) || _) = _
    rw [fit_ind p (l + 1) l b r (by omega)]
  | (some c :: p) :: ps, h => by
    have ih := restr_den b l r ps fun q hq => h q (List.mem_cons_of_mem _ hq)
    rw [restr, List.any_cons, ih]
    show (((st r l b l == c) && fit (l + 1) p (st r l b)) || _) = _
    rw [st_same, fit_ind p (l + 1) l b r (by omega)]
    by_cases e : c = b
    · subst e
      rw [if_pos rfl, List.any_cons]
      simp
    · rw [if_neg e]
      have : (b == c) = false := by cases b <;> cases c <;> simp_all
      rw [this]
      simp
theorem restr_same : ∀ ps : List Pat, (∀ p ∈ ps, ∀ c q, p ≠ some c :: q) → restr false ps = restr true ps
  | [], _ => rfl
  | [] :: ps, h => restr_same ps fun q hq => h q (List.mem_cons_of_mem _ hq)
  | (none :: p) :: ps, h => by
    rw [restr, restr, restr_same ps fun q hq => h q (List.mem_cons_of_mem _ hq)]
  | (some c :: p) :: ps, h => absurd rfl (h _ List.mem_cons_self c p)
theorem restr_less (c : Bool) (q : Pat) : ∀ ps : List Pat, (some c :: q) ∈ ps → (restr (!c) ps).length + 1 ≤ ps.length
  | [], h => by cases h
  | p :: ps, h => by
    rcases List.mem_cons.mp h with e | h
    · subst e
      rw [restr, if_neg (by cases c <;> simp)]
      exact Nat.succ_le_succ (restr_len _ ps)
    · have ih := restr_less c q ps h
      cases p with
      | nil => rw [restr, List.length_cons]; omega
      | cons o p =>
        cases o with
        | none => rw [restr, List.length_cons, List.length_cons]; omega
        | some d =>
          rw [restr]
          split
          · rw [List.length_cons, List.length_cons]; omega
          · rw [List.length_cons]; omega
/-- the bound: k patterns, n places; c: what no pattern tells -/
def bd (c : Nat) : Nat → Nat → Nat
  | 0, _ => c
  | _ + 1, 0 => 1
  | k + 1, n + 1 => bd c (k + 1) n + bd c k n
theorem bd_le {c : Nat} (hc : c ≤ 1) : ∀ (n k : Nat), bd c k n ≤ bd c (k + 1) n
  | 0, 0 => hc
  | 0, k + 1 => Nat.le_refl _
  | n + 1, 0 => by
    show c ≤ bd c 1 n + bd c 0 n
    have : bd c 0 n = c := by cases n <;> rfl
    omega
  | n + 1, k + 1 => by
    show bd c (k + 1) n + bd c k n ≤ bd c (k + 2) n + bd c (k + 1) n
    have h1 : bd c (k + 1) n ≤ bd c (k + 2) n := bd_le hc n (k + 1)
    have h2 := bd_le hc n k
    omega
theorem bd_mono {c : Nat} (hc : c ≤ 1) {n : Nat} {k m : Nat} (h : k ≤ m) : bd c k n ≤ bd c m n := by
  induction h with
  | refl => exact Nat.le_refl _
  | step _ ih => exact Nat.le_trans ih (bd_le hc n _)
theorem np_bound {L : Nat} (neg : Bool) : ∀ (n l : Nat) (t : BT) (ps : List Pat), l + n = L → Good L t → l ≤ lev L t → (∀ p ∈ ps, p.length = n) → (∀ r, den t r = (neg != ps.any (fit l · r))) → (pats n l t).length ≤ bd (if neg then 1 else 0) ps.length n := by
  have hc : (if neg then 1 else 0) ≤ 1 := by cases neg <;> decide
  have nil : ∀ (n l : Nat) (t : BT), Good L t → (∀ r, den t r = neg) → (pats n l t).length ≤ (if neg then 1 else 0) := by
    intro n l t g h
    have e : t = leaf neg := canon g good_leaf fun r => by rw [h]; rfl
    rw [e]
    cases neg with
    | false => rw [pats_nil]; exact Nat.le_refl _
    | true => rw [pats_all]; exact Nat.le_refl _
  intro n
  induction n with
  | zero =>
    intro l t ps hl g hlv hw hd
    cases ps with
    | nil => exact nil 0 l t g fun r => by rw [hd]; cases neg <;> rfl
    | cons p ps =>
      show (pats 0 l t).length ≤ 1
      unfold pats
      split <;> simp
  | succ n ih =>
    intro l t ps hl g hlv hw hd
    cases ps with
    | nil => exact nil (n + 1) l t g fun r => by rw [hd]; cases neg <;> rfl
    | cons p0 ps =>
      have hne : ∀ p ∈ p0 :: ps, p ≠ [] := fun p hp e => by have := hw p hp; rw [e] at this; simp at this
      have sub : ∀ b : Bool, (pats n (l + 1) (half l b t)).length ≤ bd (if neg then 1 else 0) (restr b (p0 :: ps)).length n := fun b =>
        ih (l + 1) (half l b t) (restr b (p0 :: ps)) (by omega) (half_good g b) (half_lev g (by omega) hlv b) (restr_width b _ hw) fun r => by
          rw [half_den g hlv b r, hd, restr_den b l r _ hne]
      have s0 := sub false
      have s1 := sub true
      have m0 := bd_mono hc (n := n) (restr_len false (p0 :: ps))
      have m1 := bd_mono hc (n := n) (restr_len true (p0 :: ps))
      have top : bd (if neg then 1 else 0) (p0 :: ps).length (n + 1) = bd (if neg then 1 else 0) (p0 :: ps).length n + bd (if neg then 1 else 0) ps.length n := rfl
      rw [top]
      unfold pats
      split
      · exact Nat.zero_le _
      · split
        · rw [List.length_map]; omega
        · rename_i hh
          have hex : ∃ c q, (some c :: q) ∈ p0 :: ps := by
            by_cases z : ∃ c q, (some c :: q) ∈ p0 :: ps
            · exact z
            · exfalso
              apply hh
              have e := restr_same (p0 :: ps) fun p hp c q e => z ⟨c, q, e ▸ hp⟩
              refine canon (half_good g false) (half_good g true) fun r => ?_
              rw [half_den g hlv false r, half_den g hlv true r, hd, hd, restr_den false l r _ hne, restr_den true l r _ hne, e]
          obtain ⟨c, q, hq⟩ := hex
          have hl' := restr_less c q _ hq
          rw [List.length_cons] at hl'
          have m2 := bd_mono hc (n := n) (show (restr (!c) (p0 :: ps)).length ≤ ps.length by omega)
          rw [List.length_append, List.length_map, List.length_map]
          cases c with
          | false => have m2' : bd (if neg then 1 else 0) (restr true (p0 :: ps)).length n ≤ _ := m2; omega
          | true => have m2' : bd (if neg then 1 else 0) (restr false (p0 :: ps)).length n ≤ _ := m2; omega
theorem bd16 : ∀ L, L ≤ 16 → bd 0 3 L ≤ 4000 ∧ bd 1 3 L ≤ 4000 := by decide
theorem np_few {L : Nat} {qs : List Pat} (h16 : L ≤ 16) (hw : ∀ q ∈ qs, q.length = L) (hl : qs.length ≤ 3) : np (ofPats L qs) ≤ 4000 ∧ np (neg L (ofPats L qs)) ≤ 4000 := by
  have g := ofPats_good hw
  have e1 := pats_len (L := L) L 0 (ofPats L qs) (by omega) g (Nat.zero_le _)
  have e2 := pats_len (L := L) L 0 (neg L (ofPats L qs)) (by omega) neg_good (Nat.zero_le _)
  have b1 := np_bound (L := L) false L 0 (ofPats L qs) qs (by omega) g (Nat.zero_le _) hw fun r => by rw [ofPats_den hw]; simp
  have b2 := np_bound (L := L) true L 0 (neg L (ofPats L qs)) qs (by omega) neg_good (Nat.zero_le _) hw fun r => by rw [neg_den g, ofPats_den hw]; simp
  have m1 : bd 0 qs.length L ≤ bd 0 3 L := bd_mono (c := 0) (by decide) hl
  have m2 : bd 1 qs.length L ≤ bd 1 3 L := bd_mono (c := 1) (by decide) hl
  have := bd16 L h16
  rw [e1] at b1
  rw [e2] at b2
  simp only [if_true, Bool.false_eq_true, if_false] at b1 b2
  omega
end BT
end Wv

end
section
set_option maxRecDepth 100000
set_option maxHeartbeats 8000000
/-! Steps of the law: what stands between its calls, each call as one step. -/
namespace Wv
open PySem PySem.Spec PyProof.Rows L2 LamX StX
/-- what stands: the pot, the tables, heads -/
structure Zs (K : PySem.W.Frag) (a : Addr) (L : Nat) (H : Hp) (c : Nat) (xs : List (Addr × BT)) : Prop where
  pot : Pot H a c
  tab : Tabs (TT K) H
  l1 : 1 ≤ L
  l16 : L ≤ 16
  all : ∀ x ∈ xs, Hd H x.1 L x.2
section
variable {K : PySem.W.Frag} {a : Addr} {L : Nat} {H H' : Hp} {c : Nat} {xs : List (Addr × BT)} {Q : VK} {E : XK}
theorem Zs.keep (z : Zs K a L H c xs) (k : KeepX [] H H') (t : Tabs (TT K) H') : Zs K a L H' c xs := ⟨z.pot.keepX k, t, z.l1, z.l16, fun x hx => (z.all x hx).keep k⟩
theorem Zs.keeps (z : Zs K a L H c xs) (k : Keeps [] H H') : Zs K a L H' c xs := z.keep k.x (tabs_keep z.tab k)
theorem Zs.new (z : Zs K a L H c xs) {q : Addr} (hq : H q = none) (o : HO) : Zs K a L (upd H q o) c xs := z.keeps (Keeps.new hq o)
theorem Zs.cons (z : Zs K a L H c xs) {b : Addr} {t : BT} (h : Hd H b L t) : Zs K a L H c ((b, t) :: xs) := ⟨z.pot, z.tab, z.l1, z.l16, fun x hx => by
  rcases List.mem_cons.mp hx with rfl | hx
  · exact h
  · exact z.all x hx⟩
theorem Zs.sub {ys : List (Addr × BT)} (z : Zs K a L H c xs) (h : ∀ y ∈ ys, y ∈ xs) : Zs K a L H c ys := ⟨z.pot, z.tab, z.l1, z.l16, fun x hx => z.all x (h x hx)⟩
/-- the pot alone is written -/
theorem Zs.dig {d : Nat} (z : Zs K a L H c xs) (k : Keeps [a] H H') (p : Pot H' a d) : Zs K a L H' d xs := by
  obtain ⟨x, y, w, e, _⟩ := z.pot
  refine ⟨p, fun q hq => ?_, z.l1, z.l16, fun x hx => ?_⟩
  · obtain ⟨ps, h1, h2, h3⟩ := z.tab q hq
    refine ⟨ps, k _ _ h1 (by simpa using fun e' => by rw [e', e] at h1; cases h1), h2, fun pos cv hc => ?_⟩
    obtain ⟨c', e1, e2⟩ := h3 pos cv hc
    exact ⟨c', e1, k _ _ e2 (by simpa using fun e' => by rw [e', e] at e2; unfold CodeO at e2; cases e2)⟩
  · have h := z.all x hx
    exact ⟨k _ _ h.at_ (by simpa using fun e' => by have := h.at_; rw [e', e] at this; cases this), h.good, h.few⟩
theorem Zs.lst (z : Zs K a L H c xs) {D : Addr} {ys : List V} (hD : H D = some (.lst ys)) (haD : a ≠ D) (o : HO) : Zs K a L (upd H D o) c xs := by
  obtain ⟨x, y, w, e, r⟩ := z.pot
  exact ⟨⟨x, y, w, by rw [upd_ne haD]; exact e, r⟩, tabs_lst z.tab hD o, z.l1, z.l16, fun x hx => ⟨by rw [upd_ne (ne_of (z.all x hx).at_ hD (by intro q; cases q))]; exact (z.all x hx).at_, (z.all x hx).good, (z.all x hx).few⟩⟩
theorem Zs.mono {d : Nat} (z : Zs K a L H c xs) (h : c ≤ d) : Zs K a L H d xs := ⟨z.pot.mono h, z.tab, z.l1, z.l16, z.all⟩
theorem Zs.app {ys : List (Addr × BT)} (z : Zs K a L H c xs) (h : ∀ y ∈ ys, Hd H y.1 L y.2) : Zs K a L H c (xs ++ ys) := ⟨z.pot, z.tab, z.l1, z.l16, fun x hx => by
  rcases List.mem_append.mp hx with hx | hx
  · exact z.all x hx
  · exact h x hx⟩
/-- what a call tells of new heads -/
theorem tells_of {t : BT} (z : Zs K a L H c xs) (g : BT.Good L t) (kb : Boom K E) (k : ∀ (b : Addr) (H' : Hp), KeepX [] H H' → NewX H b → Zs K a L H' c ((b, t) :: xs) → Q (.ref b) H') : Tells K L t H Q E :=
  ⟨fun hn b H' kp hT nx hb => k b H' kp nx ((z.keep kp hT).cons ⟨hb, g, hn⟩), fun _ => kb⟩
theorem step2 {op : Nat → BT → BT → BT} (hop : ∀ t u, BT.Good L (op L t u)) {o1 o2 : Addr} {t1 t2 : BT} (z : Zs K a L H c xs) (h1 : (o1, t1) ∈ xs) (h2 : (o2, t2) ∈ xs) (kb : Boom K E)
    (k : ∀ (b : Addr) (H' : Hp), KeepX [] H H' → NewX H b → Zs K a L H' c ((b, op L t1 t2) :: xs) → Q (.ref b) H') : spOp2 K op [.int (L : Int), .ref o1, .ref o2] H Q E :=
  ⟨L, o1, o2, t1, t2, rfl, z.l1, z.l16, z.tab, z.all _ h1, z.all _ h2, tells_of z (hop _ _) kb k⟩
theorem stepO {o1 : Addr} {t1 : BT} (z : Zs K a L H c xs) (h1 : (o1, t1) ∈ xs) (kb : Boom K E)
    (k : ∀ (b : Addr) (H' : Hp), KeepX [] H H' → NewX H b → Zs K a L H' c ((b, BT.neg L t1) :: xs) → Q (.ref b) H') : spOp1 K BT.neg [.int (L : Int), .ref o1] H Q E :=
  ⟨L, o1, t1, rfl, z.l1, z.l16, z.tab, z.all _ h1, tells_of z BT.neg_good kb k⟩
theorem stepM {op : Nat → BT → BT.Pat → BT} {m : BT.Pat} (hop : ∀ t, BT.Good L (op L t m)) {o1 : Addr} {t1 : BT} (z : Zs K a L H c xs) (h1 : (o1, t1) ∈ xs) (hm : m.length = L) (kb : Boom K E)
    (k : ∀ (b : Addr) (H' : Hp), KeepX [] H H' → NewX H b → Zs K a L H' c ((b, op L t1 m) :: xs) → Q (.ref b) H') : spMask K op [.int (L : Int), .ref o1, .str (txtC 61 m)] H Q E :=
  ⟨L, o1, t1, m, rfl, z.l1, z.l16, z.tab, z.all _ h1, hm, tells_of z (hop _) kb k⟩
/-- == and != of heads -/
theorem eqH {o1 o2 : Addr} {t1 t2 : BT} (ne : Bool) (z : Zs K a L H c xs) (h1 : (o1, t1) ∈ xs) (h2 : (o2, t2) ∈ xs) (q : Q (.bl (if ne then !decide (t1 = t2) else decide (t1 = t2))) H) : rEqTS K ne (.ref o1) (.ref o2) H Q := by
  have d1 := z.all _ h1
  have d2 := z.all _ h2
  refine ⟨o1, o2, (BT.pats L 0 t1).map txt, (BT.pats L 0 t2).map txt, rfl, rfl, SqT.of (by rw [d1.at_, txts_str]), SqT.of (by rw [d2.at_, txts_str]), strOk_txts _, strOk_txts _, ?_⟩
  have e : ((BT.pats L 0 t1).map txt = (BT.pats L 0 t2).map txt) ↔ t1 = t2 := by
    refine ⟨fun h => BT.pats_inj d1.good d2.good ?_, fun h => by rw [h]⟩
    have h2 := congrArg (List.map pat) h
    rw [List.map_map, List.map_map] at h2
    have e : (pat ∘ txt) = id := by funext q; exact pat_txt q
    rwa [e, List.map_id, List.map_id] at h2
  rw [decide_eq_decide.mpr e]
  exact q
/-- heads against a written tuple of texts -/
theorem eqD {o1 q0 : Addr} {t1 : BT} {qs : List BT.Pat} (ne : Bool) (z : Zs K a L H c xs) (h1 : (o1, t1) ∈ xs) (hq : H q0 = some (.tup (txts qs))) (q : Q (.bl (if ne then !decide (BT.pats L 0 t1 = qs) else decide (BT.pats L 0 t1 = qs))) H) : rEqTS K ne (.ref o1) (.ref q0) H Q := by
  have d1 := z.all _ h1
  refine ⟨o1, q0, (BT.pats L 0 t1).map txt, qs.map txt, rfl, rfl, SqT.of (by rw [d1.at_, txts_str]), SqT.of (by rw [hq, txts_str]), strOk_txts _, strOk_txts _, ?_⟩
  have e : ((BT.pats L 0 t1).map txt = qs.map txt) ↔ BT.pats L 0 t1 = qs := by
    refine ⟨fun h => ?_, fun h => by rw [h]⟩
    have h2 := congrArg (List.map pat) h
    rw [List.map_map, List.map_map] at h2
    have e : (pat ∘ txt) = id := by funext q; exact pat_txt q
    rwa [e, List.map_id, List.map_id] at h2
  rw [decide_eq_decide.mpr e]
  exact q
theorem stepHow {o1 : Addr} {t1 : BT} (z : Zs K a L H c xs) (h1 : (o1, t1) ∈ xs) (k : ∀ H', KeepX [] H H' → Zs K a L H' c xs → Q (.int (BT.many L t1 : Nat)) H') : spHow K [.int (L : Int), .ref o1] H Q E :=
  ⟨L, o1, t1, rfl, z.l1, z.l16, z.tab, z.all _ h1, fun H' kp hT => k H' kp (z.keep kp hT)⟩
theorem stepHas {o1 : Addr} {t1 : BT} {bs : List Bool} (z : Zs K a L H c xs) (h1 : (o1, t1) ∈ xs) (hb : bs.length = L) (k : ∀ H', KeepX [] H H' → Zs K a L H' c xs → Q (.bl (BT.den t1 (BT.rowOf bs))) H') : spHas K [.int (L : Int), .ref o1, .str (htxt bs)] H Q E :=
  ⟨L, o1, t1, bs, rfl, z.l1, z.l16, z.tab, z.all _ h1, hb, fun H' kp hT => k H' kp (z.keep kp hT)⟩
theorem stepIs {o1 : Addr} {t1 : BT} (z : Zs K a L H c xs) (h1 : (o1, t1) ∈ xs) (k : ∀ H', KeepX [] H H' → Zs K a L H' c xs → Q (.bl true) H') : spHeadsOf K [.int (L : Int), .ref o1] H Q E :=
  ⟨L, o1, t1, rfl, z.l1, z.l16, z.tab, z.all _ h1, fun H' kp hT => k H' kp (z.keep kp hT)⟩
theorem stepLeast {o1 : Addr} {t1 : BT} (z : Zs K a L H c xs) (h1 : (o1, t1) ∈ xs) (k0 : t1 = .leaf false → ∀ H', KeepX [] H H' → Zs K a L H' c xs → Q .non H') (k : t1 ≠ .leaf false → ∀ H', KeepX [] H H' → Zs K a L H' c xs → Q (.str (htxt (BT.first L 0 t1))) H') : spLeast K [.int (L : Int), .ref o1] H Q E :=
  ⟨L, o1, t1, rfl, z.l1, z.l16, z.tab, z.all _ h1, fun e H' kp hT => k0 e H' kp (z.keep kp hT), fun e H' kp hT => k e H' kp (z.keep kp hT)⟩
/-- the reversed patterns' plain is the same -/
theorem stepRev {o1 q0 : Addr} {t1 : BT} (z : Zs K a L H c xs) (h1 : (o1, t1) ∈ xs) (hq : H q0 = some (.tup (txts (BT.pats L 0 t1)).reverse)) (kb : Boom K E)
    (k : ∀ (b : Addr) (H' : Hp), KeepX [] H H' → NewX H b → Zs K a L H' c ((b, t1) :: xs) → Q (.ref b) H') : spPlain K [.int (L : Int), .ref q0] H Q E := by
  have d1 := z.all _ h1
  have hw : ∀ q ∈ (BT.pats L 0 t1).reverse, q.length = L := fun q hq => BT.pats_width L 0 t1 q (List.mem_reverse.mp hq)
  have e : (txts (BT.pats L 0 t1)).reverse = txts (BT.pats L 0 t1).reverse := (List.map_reverse ..).symm
  rw [e] at hq
  have hcap : cap = 8000000 := rfl
  have hcost : BT.pcost (BT.pats L 0 t1).reverse ≤ cap := by
    have h : (BT.pats L 0 t1).length * L + rcs (BT.pats L 0 t1) ≤ 2356224 := d1.cost z.l16
    rw [← pcost_rcs hw, List.length_reverse]
    have : rcs (BT.pats L 0 t1).reverse = rcs (BT.pats L 0 t1) := by unfold rcs; rw [List.map_reverse, List.sum_reverse]
    rw [this]
    omega
  refine ⟨L, q0, (BT.pats L 0 t1).reverse, rfl, z.l1, z.l16, z.tab, hq, hw, by rw [List.length_reverse, d1.len]; exact d1.few, hcost, ?_⟩
  rw [BT.ofPats_rev (BT.pats_width L 0 t1), BT.ofPats_pats d1.good]
  exact tells_of z d1.good kb k
theorem stars (s : Nat) : ∀ n : Nat, txtC s (List.replicate n none) = ⟨(List.replicate n s).toArray⟩ := fun n => by
  unfold txtC
  rw [List.map_replicate]
  rfl
end
end Wv

end
section
/-! rows made from heads with a mask put in; plain mathematics. -/
namespace Wv
namespace BT
theorem over_at : ∀ (p : Pat) (i : Nat) (r : Row) (j : Nat), i ≤ j → over i p r j = ((p[j - i]?).getD none).getD (r j)
  | [], i, r, j, h => rfl
  | none :: p, i, r, j, h => by
    show over (i + 1) p r j = _
    by_cases e : j = i
    · subst e
      rw [over_ge p (j + 1) r j (by omega), Nat.sub_self]
      rfl
    · rw [over_at p (i + 1) r j (by omega), show j - i = (j - (i + 1)) + 1 by omega, List.getElem?_cons_succ]
  | some b :: p, i, r, j, h => by
    show over (i + 1) p (st r i b) j = _
    by_cases e : j = i
    · subst e
      rw [over_ge p (j + 1) _ j (by omega), Nat.sub_self, st_same]
      rfl
    · rw [over_at p (i + 1) _ j (by omega), show j - i = (j - (i + 1)) + 1 by omega, List.getElem?_cons_succ, st_ne r b e]
theorem den_over {L : Nat} {t : BT} (g : Good L t) {bs : List Bool} {m : Pat} (hb : bs.length = L) (hm : m.length = L) :
    den t (rowOf (List.zipWith (fun b o => Option.getD o b) bs m)) = den t (over 0 m (rowOf bs)) := by
  refine den_loc g _ _ fun j hj => ?_
  rw [over_at m 0 _ j (Nat.zero_le _), Nat.sub_zero]
  unfold rowOf
  rw [List.getD_eq_getElem?_getD, List.getD_eq_getElem?_getD, List.getElem?_zipWith, List.getElem?_eq_getElem (show j < bs.length by omega), List.getElem?_eq_getElem (show j < m.length by omega)]
  rfl
/-- a head of a set, the mask put in, is in the set with the mask put in -/
theorem put_in {L : Nat} {t : BT} (g : Good L t) {bs : List Bool} {m : Pat} (hb : bs.length = L) (hm : m.length = L) (h : den t (rowOf bs) = true) :
    den (put L t m) (rowOf (List.zipWith (fun b o => Option.getD o b) bs m)) = true := by
  rw [den_over put_good hb hm, put_den g hm]
  exact ⟨_, h, rfl⟩
theorem putb_in {L : Nat} {t : BT} (g : Good L t) {bs : List Bool} {m : Pat} (hb : bs.length = L) (hm : m.length = L) :
    den (putb L t m) (rowOf bs) = den t (rowOf (List.zipWith (fun b o => Option.getD o b) bs m)) := by
  rw [putb_den g hm, den_over g hb hm]
end BT
end Wv

end
section
set_option maxRecDepth 100000
set_option maxHeartbeats 8000000
/-! More steps of the law: texts times a number, masks and heads drawn, comparisons whose outcome is known. -/
namespace Wv
open PySem PySem.Spec PyProof.Rows L2 LamX StX
theorem mem_at {α : Type} {l : List α} {x : α} (i : Nat) (h : l[i]? = some x) : x ∈ l := List.mem_of_getElem? h
theorem fold_one (c : Nat) : ∀ (n : Nat) (acc : Array Nat), (List.replicate n (#[c] : Array Nat)).foldl (· ++ ·) acc = acc ++ (List.replicate n c).toArray
  | 0, acc => by simp
  | n + 1, acc => by
    rw [List.replicate_succ, List.foldl_cons, fold_one c n, List.replicate_succ]
    apply Array.toList_inj.mp
    simp
theorem mul_one (c : Nat) {n : Nat} (h : 1 ≤ n) : Txt.mul ⟨#[c]⟩ (n : Int) = ⟨(List.replicate n c).toArray⟩ := by
  unfold Txt.mul
  rw [if_neg (by omega)]
  by_cases e : n = 1
  · subst e
    rfl
  · have e2 : (((n : Int) == 1) || (Str.length ⟨#[c]⟩ == 0)) = false := by
      have : ((n : Int) == 1) = false := by simp; omega
      rw [this]
      rfl
    rw [e2, if_neg Bool.false_ne_true, Int.toNat_natCast]
    show Str.mk ((List.replicate n (#[c] : Array Nat)).foldl (· ++ ·) #[]) = _
    rw [fold_one]
    simp
theorem mul_any {L : Nat} (h : 1 ≤ L) : Txt.mul (Str.ofString "*") (L : Int) = txtC 42 (List.replicate L none) := by
  rw [show Str.ofString "*" = ⟨#[42]⟩ by decide +kernel, mul_one 42 h, stars]
theorem mul_stay {L : Nat} (h : 1 ≤ L) : Txt.mul (Str.ofString "=") (L : Int) = txtC 61 (List.replicate L none) := by
  rw [show Str.ofString "=" = ⟨#[61]⟩ by decide +kernel, mul_one 61 h, stars]
theorem htxt_of {y : Str} (h : ∀ ch ∈ y.cps.toList, ch = 48 ∨ ch = 49) : ∃ bs : List Bool, bs.length = y.length ∧ y = htxt bs := by
  refine ⟨(pat y).map fun o => o.getD false, by rw [List.length_map, len_pat], ?_⟩
  have e : txt (pat y) = y := txt_pat fun ch hch => by rcases h ch hch with e | e <;> simp [e]
  have e2 : ((pat y).map fun o => o.getD false).map some = pat y := by
    rw [List.map_map]
    refine (List.map_congr_left fun o ho => ?_).trans (List.map_id' _)
    unfold pat at ho
    obtain ⟨ch, hch, rfl⟩ := List.mem_map.mp ho
    rcases h ch hch with e | e <;> (rw [e]; rfl)
  unfold htxt
  rw [e2]
  exact e.symm
section
variable {K : PySem.W.Frag} {a : Addr} {L : Nat} {H H' : Hp} {c : Nat} {xs : List (Addr × BT)} {Q : VK} {E : XK}
theorem eqT {o1 o2 : Addr} {t1 t2 : BT} (z : Zs K a L H c xs) (h1 : (o1, t1) ∈ xs) (h2 : (o2, t2) ∈ xs) (e : t1 = t2) (q : Q (.bl false) H) : rEqTS K true (.ref o1) (.ref o2) H Q :=
  eqH true z h1 h2 (by rw [decide_eq_true e]; exact q)
/-- all heads against the written tuple of one text -/
theorem eqFull {o1 q0 : Addr} {t1 : BT} (z : Zs K a L H c xs) (h1 : (o1, t1) ∈ xs) (e : t1 = .leaf true) (hq : H q0 = some (.tup [V.str (Txt.mul (Str.ofString "*") (L : Int))])) (q : Q (.bl false) H) : rEqTS K true (.ref o1) (.ref q0) H Q :=
  eqD (qs := [List.replicate L none]) true z h1 (by rw [hq, mul_any z.l1]; rfl) (by rw [decide_eq_true (by rw [e]; exact BT.pats_all L 0)]; exact q)
/-- none against the written empty tuple -/
theorem eqNone {o1 q0 : Addr} {t1 : BT} (ne : Bool) (z : Zs K a L H c xs) (h1 : (o1, t1) ∈ xs) (hq : H q0 = some (.tup [])) (q : Q (.bl (if ne then !decide (t1 = .leaf false) else decide (t1 = .leaf false))) H) : rEqTS K ne (.ref o1) (.ref q0) H Q :=
  eqD (qs := []) ne z h1 hq (by rw [decide_eq_decide.mpr (BT.pats_empty (z.all _ h1).good)]; exact q)
theorem stepStay {o1 : Addr} {t1 : BT} (z : Zs K a L H c xs) (h1 : (o1, t1) ∈ xs) (kb : Boom K E)
    (k : ∀ (b : Addr) (H' : Hp), KeepX [] H H' → NewX H b → Zs K a L H' c ((b, BT.put L t1 (List.replicate L none)) :: xs) → Q (.ref b) H') : spMask K BT.put [.int (L : Int), .ref o1, .str (Txt.mul (Str.ofString "=") (L : Int))] H Q E := by
  rw [mul_stay z.l1]
  exact stepM (fun t => BT.put_good) z h1 List.length_replicate kb k
theorem has_back {t : BT} (g : BT.Good L t) {bs : List Bool} {m : BT.Pat} (hb : bs.length = L) (hm : m.length = L) : BT.den (BT.putb L t m) (BT.rowOf bs) = BT.den t (BT.rowOf (overL bs m)) := BT.putb_in g hb hm
theorem has_there {t : BT} (g : BT.Good L t) {bs : List Bool} {m : BT.Pat} (hb : bs.length = L) (hm : m.length = L) (h : BT.den t (BT.rowOf bs) = true) : BT.den (BT.put L t m) (BT.rowOf (overL bs m)) = true := BT.put_in g hb hm h
theorem overL_len {bs : List Bool} {m : BT.Pat} (hb : bs.length = L) (hm : m.length = L) : (overL bs m).length = L := by
  unfold overL
  rw [List.length_zipWith, hb, hm, Nat.min_self]
end
end Wv

end
section
set_option maxRecDepth 100000
set_option maxHeartbeats 16000000
/-! _law_right. Printed from K73U10.tpl by tm.py; the template by mk10.py. -/
namespace Wv
open PySem PySem.Spec PyProof.Rows L2 LamX StX
section
variable {P : Program} {w : World} {K : PySem.W.Frag} {mg : Str → Option Value} {base h : Heap} (T : Tp K mg w h)
include T
theorem ok_law_right (TB : ∀ q ∈ tf, TabB base mg (He.cT K q).1 (He.cT K q).2) (N : Ne P K) : FnR P w K mg base (L2.CX P w) 40 (He.ga K "_law_right") (spRight K) := by
  refine fnR_of T.F_law_right sc_law_right (fun _ _ _ _ _ _ us hl => match us, hl with | [_], _ => rfl) (fun vs H Q E h => ?_) (fun cdv AA outer s H vs Q E hr h => ?_)
  · obtain ⟨a, rfl, _⟩ := h
    rfl
  obtain ⟨a, rfl, hp, hT, k, kb⟩ := h
  have hu64 := hr.units
  refine ⟨_, (pss_cons (ps_set (i := 1) sc_law_right.nd rfl (Or.inr rfl) (pe_callTy call_int1 (by rfl) T.z_int (by decide +kernel) (pa_cons (pe_op op_add pe_int (pe_callR (ok_law_take T) (hr.mono (by decide)) T.k_law_take rfl T.m_law_take pass0 (pa_cons (pv 0) (pa_cons pe_int pa_nil)))) pa_nil)))
      (pss_cons (ps_asg (pe_lc (own := [("lap", 2)]) rfl sc_law_right.nd (pi_range1 rfl T.z_range (pa_cons pe_int pa_nil)) (blkOk_by (N := ["pot", "width", "lap", "one", "two", "three", "heads", "rest", "sizes", "place", "mask", "there", "back", "again", "head"]) (sc := defScope s_law_right) (by decide +kernel)) (fun _ _ _ _ _ => (pg_name (i := 2) sc_law_right.nd rfl (Or.inl rfl))) (fun _ _ _ _ _ => pts_nil) (fun _ _ _ _ _ => (pe_callR (ok_plain (P := P) (w := w) (base := base) T TB N) (hr.mono (by decide)) T.k_plain rfl T.m_plain (passF (P := P) (w := w)) (pa_cons (pv 1) (pa_cons (pe_callR (ok_law_patterns T) (hr.mono (by decide)) T.k_law_patterns rfl T.m_law_patterns pass0 (pa_cons (pv 0) (pa_cons (pv 1) (pa_cons pe_int pa_nil)))) pa_nil))))) (pg_lst (by rfl) (pgs_cons (pg_name (i := 3) sc_law_right.nd rfl (Or.inl rfl)) (pgs_cons (pg_name (i := 4) sc_law_right.nd rfl (Or.inl rfl)) (pgs_cons (pg_name (i := 5) sc_law_right.nd rfl (Or.inl rfl)) pgs_nil)))))
      (pss_cons (ps_setLc (i := 7) (own := [("heads", 6)]) rfl sc_law_right.nd rfl rfl (sw_true rfl rfl rfl (by decide +kernel)) (pi_tup (pe_tup (pa_cons (pv 3) (pa_cons (pv 4) (pa_cons (pv 5) pa_nil))))) (blkOk_by (N := ["pot", "width", "lap", "one", "two", "three", "heads", "rest", "sizes", "place", "mask", "there", "back", "again", "head"]) (sc := defScope s_law_right) (by decide +kernel)) (fun _ _ _ _ _ => (pg_name (i := 6) sc_law_right.nd rfl (Or.inl rfl))) (fun _ _ _ _ _ => pts_nil) (fun _ _ _ _ _ => (pe_callR (ok_others (P := P) (w := w) (base := base) T TB N) (hr.mono (by decide)) T.k_others rfl T.m_others (passF (P := P) (w := w)) (pa_cons (pv 1) (pa_cons (pv 6) pa_nil)))))
      (pss_cons (ps_if (pt_cmpR (op_neTS hu64) (pe_callR (ok_others (P := P) (w := w) (base := base) T TB N) (hr.mono (by decide)) T.k_others rfl T.m_others (passE (takes_of rfl rfl rfl rfl)) (pa_cons (pv 1) (pa_cons (pe_callR (ok_both T TB N) (hr.mono (by decide)) T.k_both rfl T.m_both (passE (takes_of rfl rfl rfl rfl)) (pa_cons (pv 1) (pa_cons (pv 3) (pa_cons (pv 4) pa_nil)))) pa_nil))) (pe_callR (ok_either T TB N) (hr.mono (by decide)) T.k_either rfl T.m_either (passE (takes_of rfl rfl rfl rfl)) (pa_cons (pv 1) (pa_cons (pe_ix ix_list (pv 7) pe_int (fun _ _ => rfl)) (pa_cons (pe_ix ix_list (pv 7) pe_int (fun _ _ => rfl)) pa_nil)))) (nomark _)) (pss_one (ps_ret pe_bl)) pss_nil)
      (pss_cons (ps_if (pt_cmpR (op_neTS hu64) (pe_callR (ok_both T TB N) (hr.mono (by decide)) T.k_both rfl T.m_both (passE (takes_of rfl rfl rfl rfl)) (pa_cons (pv 1) (pa_cons (pv 3) (pa_cons (pe_callR (ok_either T TB N) (hr.mono (by decide)) T.k_either rfl T.m_either (passE (takes_of rfl rfl rfl rfl)) (pa_cons (pv 1) (pa_cons (pv 4) (pa_cons (pv 5) pa_nil)))) pa_nil)))) (pe_callR (ok_either T TB N) (hr.mono (by decide)) T.k_either rfl T.m_either (passE (takes_of rfl rfl rfl rfl)) (pa_cons (pv 1) (pa_cons (pe_callR (ok_both T TB N) (hr.mono (by decide)) T.k_both rfl T.m_both (passE (takes_of rfl rfl rfl rfl)) (pa_cons (pv 1) (pa_cons (pv 3) (pa_cons (pv 4) pa_nil)))) (pa_cons (pe_callR (ok_both T TB N) (hr.mono (by decide)) T.k_both rfl T.m_both (passE (takes_of rfl rfl rfl rfl)) (pa_cons (pv 1) (pa_cons (pv 3) (pa_cons (pv 5) pa_nil)))) pa_nil)))) (nomark _)) (pss_one (ps_ret pe_bl)) pss_nil)
      (pss_cons (ps_if (pt_cmpR (op_neTS hu64) (pe_callR (ok_either T TB N) (hr.mono (by decide)) T.k_either rfl T.m_either (passE (takes_of rfl rfl rfl rfl)) (pa_cons (pv 1) (pa_cons (pv 3) (pa_cons (pe_callR (ok_both T TB N) (hr.mono (by decide)) T.k_both rfl T.m_both (passE (takes_of rfl rfl rfl rfl)) (pa_cons (pv 1) (pa_cons (pv 4) (pa_cons (pv 5) pa_nil)))) pa_nil)))) (pe_callR (ok_both T TB N) (hr.mono (by decide)) T.k_both rfl T.m_both (passE (takes_of rfl rfl rfl rfl)) (pa_cons (pv 1) (pa_cons (pe_callR (ok_either T TB N) (hr.mono (by decide)) T.k_either rfl T.m_either (passE (takes_of rfl rfl rfl rfl)) (pa_cons (pv 1) (pa_cons (pv 3) (pa_cons (pv 4) pa_nil)))) (pa_cons (pe_callR (ok_either T TB N) (hr.mono (by decide)) T.k_either rfl T.m_either (passE (takes_of rfl rfl rfl rfl)) (pa_cons (pv 1) (pa_cons (pv 3) (pa_cons (pv 5) pa_nil)))) pa_nil)))) (nomark _)) (pss_one (ps_ret pe_bl)) pss_nil)
      (pss_cons (ps_if (PW.pt (pw_or (pt_cmpR (op_neTS hu64) (pe_callR (ok_both T TB N) (hr.mono (by decide)) T.k_both rfl T.m_both (passE (takes_of rfl rfl rfl rfl)) (pa_cons (pv 1) (pa_cons (pv 3) (pa_cons (pe_callR (ok_either T TB N) (hr.mono (by decide)) T.k_either rfl T.m_either (passE (takes_of rfl rfl rfl rfl)) (pa_cons (pv 1) (pa_cons (pv 3) (pa_cons (pv 4) pa_nil)))) pa_nil)))) (pv 3) (nomark _)) (pw_or1 (pt_cmpR (op_neTS hu64) (pe_callR (ok_either T TB N) (hr.mono (by decide)) T.k_either rfl T.m_either (passE (takes_of rfl rfl rfl rfl)) (pa_cons (pv 1) (pa_cons (pv 3) (pa_cons (pe_ix ix_list (pv 7) pe_int (fun _ _ => rfl)) pa_nil)))) (pe_tup (pa_cons (pe_op op_mulS pe_str (pv 1)) pa_nil)) (nomark _))))) (pss_one (ps_ret pe_bl)) pss_nil)
      (pss_cons (ps_setLc (i := 8) (own := [("heads", 6)]) rfl sc_law_right.nd rfl rfl (sw_true rfl rfl rfl (by decide +kernel)) (pi_tup (pe_tup (pa_cons (pv 3) (pa_cons (pv 4) (pa_cons (pe_callR (ok_both T TB N) (hr.mono (by decide)) T.k_both rfl T.m_both (passE (takes_of rfl rfl rfl rfl)) (pa_cons (pv 1) (pa_cons (pv 3) (pa_cons (pv 4) pa_nil)))) (pa_cons (pe_callR (ok_either T TB N) (hr.mono (by decide)) T.k_either rfl T.m_either (passE (takes_of rfl rfl rfl rfl)) (pa_cons (pv 1) (pa_cons (pv 3) (pa_cons (pv 4) pa_nil)))) pa_nil)))))) (blkOk_by (N := ["pot", "width", "lap", "one", "two", "three", "heads", "rest", "sizes", "place", "mask", "there", "back", "again", "head"]) (sc := defScope s_law_right) (by decide +kernel)) (fun _ _ _ _ _ => (pg_name (i := 6) sc_law_right.nd rfl (Or.inl rfl))) (fun _ _ _ _ _ => pts_nil) (fun _ _ _ _ _ => (pe_callR (ok_how_many (P := P) (base := base) T TB N) (hr.mono (by decide)) T.k_how_many rfl T.m_how_many pass0 (pa_cons (pv 1) (pa_cons (pv 6) pa_nil)))))
      (pss_cons (ps_if (pt_cmpR op_ne (pe_op op_add (pe_ix ix_list (pv 8) pe_int (fun _ _ => rfl)) (pe_ix ix_list (pv 8) pe_int (fun _ _ => rfl))) (pe_op op_add (pe_ix ix_list (pv 8) pe_int (fun _ _ => rfl)) (pe_ix ix_list (pv 8) pe_int (fun _ _ => rfl))) (nomark _)) (pss_one (ps_ret pe_bl)) pss_nil)
      (pss_cons (ps_set (i := 10) sc_law_right.nd rfl (Or.inl rfl) (pe_join pe_str (pe_lc (own := [("place", 9)]) rfl sc_law_right.nd (pi_range1 rfl T.z_range (pa_cons (pv 1) pa_nil)) (blkOk_by (N := ["pot", "width", "lap", "one", "two", "three", "heads", "rest", "sizes", "place", "mask", "there", "back", "again", "head"]) (sc := defScope s_law_right) (by decide +kernel)) (fun _ _ _ _ _ => (pg_name (i := 9) sc_law_right.nd rfl (Or.inl rfl))) (fun _ _ _ _ _ => pts_nil) (fun _ _ _ _ _ => (pe_callR (ok_law_ofS T) (hr.mono (by decide)) T.k_law_of rfl T.m_law_of pass0 (pa_cons (pv 0) (pa_cons pe_str pa_nil)))))))
      (pss_cons (ps_par (i := 11) (j := 12) (by rfl) sc_law_right.nd rfl rfl (by decide) rfl rfl (pa_cons (pe_callR (ok_put_into T TB N) (hr.mono (by decide)) T.k_put_into rfl T.m_put_into (passE (takes_of rfl rfl rfl rfl)) (pa_cons (pv 1) (pa_cons (pv 3) (pa_cons (pv 10) pa_nil)))) (pa_cons (pe_callR (ok_put_before T TB N) (hr.mono (by decide)) T.k_put_before rfl T.m_put_before (passE (takes_of rfl rfl rfl rfl)) (pa_cons (pv 1) (pa_cons (pv 3) (pa_cons (pv 10) pa_nil)))) pa_nil)) (by rfl))
      (pss_cons (ps_set (i := 13) sc_law_right.nd rfl (Or.inl rfl) (pe_callR (ok_put_into T TB N) (hr.mono (by decide)) T.k_put_into rfl T.m_put_into (passE (takes_of rfl rfl rfl rfl)) (pa_cons (pv 1) (pa_cons (pv 12) (pa_cons (pv 10) pa_nil)))))
      (pss_cons (ps_if (PW.pt (pw_or (pt_cmpR (op_neTS hu64) (pe_callR (ok_put_into T TB N) (hr.mono (by decide)) T.k_put_into rfl T.m_put_into (passE (takes_of rfl rfl rfl rfl)) (pa_cons (pv 1) (pa_cons (pv 11) (pa_cons (pv 10) pa_nil)))) (pv 11) (nomark _)) (pw_or1 (pt_cmpR (op_neTS hu64) (pe_callR (ok_both T TB N) (hr.mono (by decide)) T.k_both rfl T.m_both (passE (takes_of rfl rfl rfl rfl)) (pa_cons (pv 1) (pa_cons (pv 13) (pa_cons (pv 3) pa_nil)))) (pv 13) (nomark _))))) (pss_one (ps_ret pe_bl)) pss_nil)
      (pss_cons (ps_if (PW.pt (pw_or (pt_cmpR (op_neTS hu64) (pe_callR (ok_both T TB N) (hr.mono (by decide)) T.k_both rfl T.m_both (passE (takes_of rfl rfl rfl rfl)) (pa_cons (pv 1) (pa_cons (pe_callR (ok_put_before T TB N) (hr.mono (by decide)) T.k_put_before rfl T.m_put_before (passE (takes_of rfl rfl rfl rfl)) (pa_cons (pv 1) (pa_cons (pv 11) (pa_cons (pv 10) pa_nil)))) (pa_cons (pv 3) pa_nil)))) (pv 3) (nomark _)) (pw_or1 (pt_cmpR (op_neTS hu64) (pe_callR (ok_put_before T TB N) (hr.mono (by decide)) T.k_put_before rfl T.m_put_before (passE (takes_of rfl rfl rfl rfl)) (pa_cons (pv 1) (pa_cons (pv 12) (pa_cons (pv 10) pa_nil)))) (pv 12) (nomark _))))) (pss_one (ps_ret pe_bl)) pss_nil)
      (pss_cons (ps_if (pt_cmpR (op_neTS hu64) (pe_callR (ok_put_into T TB N) (hr.mono (by decide)) T.k_put_into rfl T.m_put_into (passE (takes_of rfl rfl rfl rfl)) (pa_cons (pv 1) (pa_cons (pe_callR (ok_either T TB N) (hr.mono (by decide)) T.k_either rfl T.m_either (passE (takes_of rfl rfl rfl rfl)) (pa_cons (pv 1) (pa_cons (pv 3) (pa_cons (pv 4) pa_nil)))) (pa_cons (pv 10) pa_nil)))) (pe_callR (ok_either T TB N) (hr.mono (by decide)) T.k_either rfl T.m_either (passE (takes_of rfl rfl rfl rfl)) (pa_cons (pv 1) (pa_cons (pv 11) (pa_cons (pe_callR (ok_put_into T TB N) (hr.mono (by decide)) T.k_put_into rfl T.m_put_into (passE (takes_of rfl rfl rfl rfl)) (pa_cons (pv 1) (pa_cons (pv 4) (pa_cons (pv 10) pa_nil)))) pa_nil)))) (nomark _)) (pss_one (ps_ret pe_bl)) pss_nil)
      (pss_cons (ps_if (pt_cmpR (op_neTS hu64) (pe_callR (ok_put_before T TB N) (hr.mono (by decide)) T.k_put_before rfl T.m_put_before (passE (takes_of rfl rfl rfl rfl)) (pa_cons (pv 1) (pa_cons (pe_ix ix_list (pv 7) pe_int (fun _ _ => rfl)) (pa_cons (pv 10) pa_nil)))) (pe_callR (ok_others (P := P) (w := w) (base := base) T TB N) (hr.mono (by decide)) T.k_others rfl T.m_others (passE (takes_of rfl rfl rfl rfl)) (pa_cons (pv 1) (pa_cons (pv 12) pa_nil))) (nomark _)) (pss_one (ps_ret pe_bl)) pss_nil)
      (pss_cons (ps_for (passes_of rfl) rfl (pi_tup (pe_tup (pa_cons (pv 3) (pa_cons (pv 11) (pa_cons (pv 12) (pa_cons (pe_ix ix_list (pv 7) pe_int (fun _ _ => rfl)) pa_nil)))))) (pg_name (i := 6) sc_law_right.nd rfl (Or.inl rfl)) (pss_cons (ps_if (PW.pt (pw_or (pt_cmpR op_isNotT (pe_callR (ok_is_heads T TB N) (hr.mono (by decide)) T.k_is_heads rfl T.m_is_heads pass0 (pa_cons (pv 1) (pa_cons (pv 6) pa_nil))) pe_bl (nomark _)) (pw_or1 (pt_cmpR (op_neTS hu64) (pe_callR (ok_plain (P := P) (w := w) (base := base) T TB N) (hr.mono (by decide)) T.k_plain rfl T.m_plain (passE (takes_of rfl rfl rfl rfl)) (pa_cons (pv 1) (pa_cons (pe_revT (pv 6)) pa_nil))) (pv 6) (nomark _))))) (pss_one (ps_ret pe_bl)) pss_nil)
      (pss_cons (ps_set (i := 14) sc_law_right.nd rfl (Or.inl rfl) (pe_callR (ok_least_head T TB N) (hr.mono (by decide)) T.k_least_head rfl T.m_least_head pass0 (pa_cons (pv 1) (pa_cons (pv 6) pa_nil))))
      (pss_cons (ps_if (PW.pt (pw_or (pt_cmpR op_ne (pe_cmpR op_isN (pv 14) pe_non (nomark _)) (pe_cmpR (op_eqTS hu64) (pv 6) (pe_tup pa_nil) (nomark _)) (nomark _)) (pw_or1 (PW.pt (pw_and (pt_cmpR op_notN (pv 14) pe_non (nomark _)) (pw_and1 (pt_not (pt_val (pe_callR (ok_has_head T TB N) (hr.mono (by decide)) T.k_has_head rfl T.m_has_head pass0 (pa_cons (pv 1) (pa_cons (pv 6) (pa_cons (pv 14) pa_nil)))))))))))) (pss_one (ps_ret pe_bl)) pss_nil)
      (pss_one (ps_if (PW.pt (pw_and (pt_cmpR (op_neTS hu64) (pv 6) (pe_tup pa_nil) (nomark _)) (pw_and1 (pt_cmpR op_gt (pe_callR (ok_how_many (P := P) (base := base) T TB N) (hr.mono (by decide)) T.k_how_many rfl T.m_how_many pass0 (pa_cons (pv 1) (pa_cons (pv 6) pa_nil))) (pe_callR (ok_how_many (P := P) (base := base) T TB N) (hr.mono (by decide)) T.k_how_many rfl T.m_how_many pass0 (pa_cons (pv 1) (pa_cons (pe_callR (ok_put_into T TB N) (hr.mono (by decide)) T.k_put_into rfl T.m_put_into (passE (takes_of rfl rfl rfl rfl)) (pa_cons (pv 1) (pa_cons (pv 6) (pa_cons (pe_op op_mulS pe_str (pv 1)) pa_nil)))) pa_nil))) (nomark _))))) (pss_one (ps_ret pe_bl)) pss_nil))))))
      (pss_cons (ps_for (passes_of rfl) rfl (pi_range1 rfl T.z_range (pa_cons pe_int pa_nil)) (pg_name (i := 2) sc_law_right.nd rfl (Or.inl rfl)) (pss_cons (ps_set (i := 14) sc_law_right.nd rfl (Or.inl rfl) (pe_callR (ok_law_row T) (hr.mono (by decide)) T.k_law_row rfl T.m_law_row pass0 (pa_cons (pv 0) (pa_cons (pv 1) (pa_cons pe_str pa_nil)))))
      (pss_cons (ps_if (pt_cmpR op_ne (pe_callR (ok_has_head T TB N) (hr.mono (by decide)) T.k_has_head rfl T.m_has_head pass0 (pa_cons (pv 1) (pa_cons (pv 12) (pa_cons (pv 14) pa_nil)))) (pe_callR (ok_has_head T TB N) (hr.mono (by decide)) T.k_has_head rfl T.m_has_head pass0 (pa_cons (pv 1) (pa_cons (pv 3) (pa_cons (pe_callR (ok_law_put T) (hr.mono (by decide)) T.k_law_put rfl T.m_law_put pass0 (pa_cons (pv 14) (pa_cons (pv 10) pa_nil))) pa_nil)))) (nomark _)) (pss_one (ps_ret pe_bl)) pss_nil)
      (pss_cons (ps_if (PW.pt (pw_and (pt_val (pe_callR (ok_has_head T TB N) (hr.mono (by decide)) T.k_has_head rfl T.m_has_head pass0 (pa_cons (pv 1) (pa_cons (pv 3) (pa_cons (pv 14) pa_nil))))) (pw_and1 (pt_not (pt_val (pe_callR (ok_has_head T TB N) (hr.mono (by decide)) T.k_has_head rfl T.m_has_head pass0 (pa_cons (pv 1) (pa_cons (pv 11) (pa_cons (pe_callR (ok_law_put T) (hr.mono (by decide)) T.k_law_put rfl T.m_law_put pass0 (pa_cons (pv 14) (pa_cons (pv 10) pa_nil))) pa_nil))))))))) (pss_one (ps_ret pe_bl)) pss_nil)
      (pss_one (ps_if (pt_cmpR op_eq (pe_callR (ok_has_head T TB N) (hr.mono (by decide)) T.k_has_head rfl T.m_has_head pass0 (pa_cons (pv 1) (pa_cons (pe_ix ix_list (pv 7) pe_int (fun _ _ => rfl)) (pa_cons (pv 14) pa_nil)))) (pe_callR (ok_has_head T TB N) (hr.mono (by decide)) T.k_has_head rfl T.m_has_head pass0 (pa_cons (pv 1) (pa_cons (pv 5) (pa_cons (pv 14) pa_nil)))) (nomark _)) (pss_one (ps_ret pe_bl)) pss_nil))))))
      (pss_one (ps_ret pe_bl)))))))))))))))))))), ?_⟩
  refine ⟨_, rfl, a, 8, 0, rfl, hp, by decide, by decide, by decide, fun d H1 hd8 K1 hp1 => ⟨_, _, rfl, rfl, .inl ⟨_, rfl, ?_⟩⟩⟩
  have hd8' : d < 8 := by omega
  have hT1 : Tabs (TT K) H1 := by
    have z0 : Zs K a 1 H 0 [] := ⟨hp, hT, by decide, by decide, fun x hx => by cases hx⟩
    exact (z0.dig K1 hp1).tab
  have z1 : Zs K a (9 + d) H1 1 [] := ⟨hp1, hT1, by omega, by omega, fun x hx => by cases hx⟩
  clear hp hT hp1 hT1 K1
  have hL9 : 9 ≤ 9 + d := by omega
  have hwid : (fun i j : Int => V.int (i + j)) 9 (d : Int) = V.int ((9 + d : Nat) : Int) := by show V.int _ = V.int _; congr 1
  refine ⟨3, rfl, by decide, by decide, fun D hD => ?_⟩
  have hpa : ∃ o, H1 a = some o := by obtain ⟨x, y, w, e, _⟩ := z1.pot; exact ⟨_, e⟩
  have haD : a ≠ D := fun e => by obtain ⟨o, e2⟩ := hpa; rw [e, hD] at e2; cases e2
  refine lc_range (lo := 0) (n := (3 : Int).toNat) (fun i H' => ∃ ls : List (Addr × BT), ls.length = i ∧ H' D = some (.lst (ls.map fun x => V.ref x.1)) ∧ Zs K a (9 + d) H' (1 + 60 * i) ls ∧ ∀ x ∈ ls, BT.np (BT.neg (9 + d) x.2) ≤ 4000)
    ⟨[], rfl, upd_same, z1.new hD _, fun x hx => by cases hx⟩ ?_ ?_
  · rintro i H2 hi ⟨ls, hls, hD2, z2, hng⟩
    have hi3 : i < 3 := hi
    refine ⟨rfl, _, rfl, _, rfl, _, rfl, a, 9 + d, 3, 1 + 60 * i, by rw [← hwid]; rfl, z2.pot, by omega, z2.l16, by decide, fun b qs H3 hq3 hqw K3 hp3 hb0 hb => ?_⟩
    have hmul : (9 + d) * 3 ≤ 48 := by omega
    have z3 := (z2.dig K3 hp3).mono (show _ ≤ 1 + 60 * (i + 1) by omega)
    have hD3 := K3 D _ hD2 (by simpa using fun e => haD e.symm)
    have hfew := BT.np_few z2.l16 hqw hq3
    have hcap : cap = 8000000 := rfl
    have hpc := BT.pcost_few z2.l16 hqw
    refine ⟨9 + d, b, qs, by rw [← hwid], z3.l1, z3.l16, z3.tab, hb, hqw, by omega, by omega, fun hn o H4 K4 hT4 nx ho => ?_, fun z => absurd z (by omega)⟩
    have z4 := z3.keep K4 hT4
    have hD4 := K4.lst hD3 (by simp)
    refine ⟨_, hD4, by rw [List.length_map, hls]; exact small1000 (by omega), ls ++ [(o, BT.ofPats (9 + d) qs)], by rw [List.length_append, hls]; rfl, ?_, (z4.app (fun y hy => by rw [List.mem_singleton.mp hy]; exact ⟨ho, BT.ofPats_good hqw, hn⟩)).lst hD4 haD _, fun x hx => ?_⟩
    · exact upd_same.trans (by rw [List.map_append]; first | done | rfl)
    · rcases List.mem_append.mp hx with hx | hx
      · exact hng x hx
      · rw [List.mem_singleton.mp hx]; exact hfew.2
  rintro H2 ⟨ls, hls, hD2, z2, hng⟩
  obtain ⟨⟨a1, t1⟩, ⟨a2, t2⟩, ⟨a3, t3⟩, rfl⟩ : ∃ x y w, ls = [x, y, w] := by
    match ls, hls with
    | [x, y, w], _ => exact ⟨x, y, w, rfl⟩
  have hn1 := hng _ (List.mem_cons_self)
  have hn2 := hng _ (List.mem_cons_of_mem _ List.mem_cons_self)
  have hn3 := hng _ (List.mem_cons_of_mem _ (List.mem_cons_of_mem _ List.mem_cons_self))
  refine ⟨D, _, rfl, SqL.of hD2, rfl, _, _, rfl, _, _, rfl, _, _, rfl, rfl, ?_⟩
  have z5 : Zs K a (9 + d) H2 181 [(a1, t1), (a2, t2), (a3, t3)] := z2
  clear z2 hD2 hng hls hD hpa haD
  refine ⟨_, rfl, _, rfl, _, rfl, show (3 : Nat) ≤ sizeLine by decide, fun Y hY => ⟨Y, rfl, ⟨_, SqT.of upd_same⟩, fun D2 hD2 => ?_⟩⟩
  have hYD : Y ≠ D2 := fun e => by rw [e, upd_same] at hD2; cases hD2
  have z6 := z5.new hY (.tup [.ref a1, .ref a2, .ref a3])
  have z7 := z6.new hD2 (.lst [])
  have hpa : ∃ o, upd H2 Y (.tup [.ref a1, .ref a2, .ref a3]) a = some o := by obtain ⟨x, y, w, e, _⟩ := z6.pot; exact ⟨_, e⟩
  have haD2 : a ≠ D2 := fun e => by obtain ⟨o, e2⟩ := hpa; rw [e, hD2] at e2; cases e2
  refine lc_tup (xs := [.ref a1, .ref a2, .ref a3]) (fun i H' => ∃ rs : List (Addr × BT), rs.length = i ∧ rs.map (·.2) = ([t1, t2, t3].take i).map (BT.neg (9 + d)) ∧ H' Y = some (.tup [.ref a1, .ref a2, .ref a3]) ∧ H' D2 = some (.lst (rs.map fun x => V.ref x.1)) ∧ Zs K a (9 + d) H' 181 ([(a1, t1), (a2, t2), (a3, t3)] ++ rs))
    ⟨[], rfl, rfl, by rw [upd_ne hYD]; exact upd_same, upd_same, z7⟩ (fun i H' _ p => by obtain ⟨_, _, _, h, _⟩ := p; exact SqT.of h) ?_ ?_
  · rintro i x H3 hi ⟨rs, hrs, hre, hY3, hD3, z8⟩
    have hi3 : i < 3 := (List.getElem?_eq_some_iff.mp hi).1
    obtain ⟨b, t, rfl, hbt, hng, ht⟩ : ∃ b t, x = V.ref b ∧ (b, t) ∈ [(a1, t1), (a2, t2), (a3, t3)] ∧ BT.np (BT.neg (9 + d) t) ≤ 4000 ∧ [t1, t2, t3][i]? = some t := by
      match i, hi, hi3 with
      | 0, hi, _ => cases hi; exact ⟨a1, t1, rfl, by simp, hn1, rfl⟩
      | 1, hi, _ => cases hi; exact ⟨a2, t2, rfl, by simp, hn2, rfl⟩
      | 2, hi, _ => cases hi; exact ⟨a3, t3, rfl, by simp, hn3, rfl⟩
    refine ⟨rfl, _, rfl, _, rfl, 9 + d, b, t, by rw [← hwid], z8.l1, z8.l16, z8.tab, z8.all _ (List.mem_append_left _ hbt), fun hn o H4 K4 hT4 nx ho => ?_, fun z => absurd z (by omega)⟩
    have z9 := z8.keep K4 hT4
    have hD4 := K4.lst hD3 (by simp)
    have haD : a ≠ D2 := haD2
    refine ⟨_, hD4, by rw [List.length_map, hrs]; exact small1000 (by omega), rs ++ [(o, BT.neg (9 + d) t)], by rw [List.length_append, hrs]; rfl, ?_, ?_, ?_, ?_⟩
    · rw [List.map_append, hre, List.take_add_one, ht, List.map_append]; rfl
    · rw [upd_ne hYD]; exact K4.tup hY3 (by simp)
    · exact upd_same.trans (by rw [List.map_append]; rfl)
    · rw [← List.append_assoc]; exact (z9.app (fun y hy => by rw [List.mem_singleton.mp hy]; exact ⟨ho, BT.neg_good, hn⟩)).lst hD4 haD _
  rintro H3 ⟨rs, hrs, hre, hY3, hD3, z8⟩
  obtain ⟨⟨b1, u1⟩, ⟨b2, u2⟩, ⟨b3, u3⟩, rfl⟩ : ∃ x y w, rs = [x, y, w] := by
    match rs, hrs with
    | [x, y, w], _ => exact ⟨x, y, w, rfl⟩
  obtain ⟨rfl, rfl, rfl⟩ : u1 = BT.neg (9 + d) t1 ∧ u2 = BT.neg (9 + d) t2 ∧ u3 = BT.neg (9 + d) t3 := by
    simpa using hre
  have g1 : BT.Good (9 + d) t1 := (z5.all (a1, t1) (by simp)).good
  have g2 : BT.Good (9 + d) t2 := (z5.all (a2, t2) (by simp)).good
  have g3 : BT.Good (9 + d) t3 := (z5.all (a3, t3) (by simp)).good
  replace z8 : Zs K a (9 + d) H3 181 [(a1, t1), (a2, t2), (a3, t3), (b1, BT.neg (9 + d) t1), (b2, BT.neg (9 + d) t2), (b3, BT.neg (9 + d) t3)] := z8
  refine ⟨_, rfl, _, rfl, _, rfl, _, rfl, step2 (L := 9 + d) (fun t u => BT.conj_good) z8 (mem_at (x := (a1, t1)) 0 rfl) (mem_at (x := (a2, t2)) 1 rfl) kb fun o10 H10 K10 nx10 z10 => ?_⟩
  have hCD2_10 := K10.lst hD3 (by simp)
  refine stepO (L := 9 + d) z10 (mem_at (x := (o10, (BT.conj (9 + d) t1 t2))) 0 rfl) kb fun o11 H11 K11 nx11 z11 => ?_
  have hCD2_11 := K11.lst hCD2_10 (by simp)
  refine ⟨_, rfl, _, rfl, D2, _, 0, _, rfl, rfl, SqL.of hCD2_11, rfl, _, rfl, D2, _, 1, _, rfl, rfl, SqL.of hCD2_11, rfl, step2 (L := 9 + d) (fun t u => BT.disj_good) z11 (mem_at (x := (b1, (BT.neg (9 + d) t1))) 5 rfl) (mem_at (x := (b2, (BT.neg (9 + d) t2))) 6 rfl) kb fun o12 H12 K12 nx12 z12 => ?_⟩
  have hCD2_12 := K12.lst hCD2_11 (by simp)
  refine eqT (L := 9 + d) z12 (mem_at (x := (o11, (BT.neg (9 + d) (BT.conj (9 + d) t1 t2)))) 1 rfl) (mem_at (x := (o12, (BT.disj (9 + d) (BT.neg (9 + d) t1) (BT.neg (9 + d) t2)))) 0 rfl) (BT.law_morgan g1 g2) ⟨false, rfl, ?_⟩
  refine (show if false = true then _ else _ from iteF ?_)
  refine ⟨_, rfl, _, rfl, _, rfl, _, rfl, _, rfl, step2 (L := 9 + d) (fun t u => BT.disj_good) z12 (mem_at (x := (a2, t2)) 4 rfl) (mem_at (x := (a3, t3)) 5 rfl) kb fun o13 H13 K13 nx13 z13 => ?_⟩
  have hCD2_13 := K13.lst hCD2_12 (by simp)
  refine step2 (L := 9 + d) (fun t u => BT.conj_good) z13 (mem_at (x := (a1, t1)) 4 rfl) (mem_at (x := (o13, (BT.disj (9 + d) t2 t3))) 0 rfl) kb fun o14 H14 K14 nx14 z14 => ?_
  have hCD2_14 := K14.lst hCD2_13 (by simp)
  refine ⟨_, rfl, _, rfl, _, rfl, _, rfl, step2 (L := 9 + d) (fun t u => BT.conj_good) z14 (mem_at (x := (a1, t1)) 5 rfl) (mem_at (x := (a2, t2)) 6 rfl) kb fun o15 H15 K15 nx15 z15 => ?_⟩
  have hCD2_15 := K15.lst hCD2_14 (by simp)
  refine ⟨_, rfl, _, rfl, _, rfl, step2 (L := 9 + d) (fun t u => BT.conj_good) z15 (mem_at (x := (a1, t1)) 6 rfl) (mem_at (x := (a3, t3)) 8 rfl) kb fun o16 H16 K16 nx16 z16 => ?_⟩
  have hCD2_16 := K16.lst hCD2_15 (by simp)
  refine step2 (L := 9 + d) (fun t u => BT.disj_good) z16 (mem_at (x := (o15, (BT.conj (9 + d) t1 t2))) 1 rfl) (mem_at (x := (o16, (BT.conj (9 + d) t1 t3))) 0 rfl) kb fun o17 H17 K17 nx17 z17 => ?_
  have hCD2_17 := K17.lst hCD2_16 (by simp)
  refine eqT (L := 9 + d) z17 (mem_at (x := (o14, (BT.conj (9 + d) t1 (BT.disj (9 + d) t2 t3)))) 3 rfl) (mem_at (x := (o17, (BT.disj (9 + d) (BT.conj (9 + d) t1 t2) (BT.conj (9 + d) t1 t3)))) 0 rfl) (BT.law_dist1 g1 g2 g3) ⟨false, rfl, ?_⟩
  refine (show if false = true then _ else _ from iteF ?_)
  refine ⟨_, rfl, _, rfl, _, rfl, _, rfl, _, rfl, step2 (L := 9 + d) (fun t u => BT.conj_good) z17 (mem_at (x := (a2, t2)) 9 rfl) (mem_at (x := (a3, t3)) 10 rfl) kb fun o18 H18 K18 nx18 z18 => ?_⟩
  have hCD2_18 := K18.lst hCD2_17 (by simp)
  refine step2 (L := 9 + d) (fun t u => BT.disj_good) z18 (mem_at (x := (a1, t1)) 9 rfl) (mem_at (x := (o18, (BT.conj (9 + d) t2 t3))) 0 rfl) kb fun o19 H19 K19 nx19 z19 => ?_
  have hCD2_19 := K19.lst hCD2_18 (by simp)
  refine ⟨_, rfl, _, rfl, _, rfl, _, rfl, step2 (L := 9 + d) (fun t u => BT.disj_good) z19 (mem_at (x := (a1, t1)) 10 rfl) (mem_at (x := (a2, t2)) 11 rfl) kb fun o20 H20 K20 nx20 z20 => ?_⟩
  have hCD2_20 := K20.lst hCD2_19 (by simp)
  refine ⟨_, rfl, _, rfl, _, rfl, step2 (L := 9 + d) (fun t u => BT.disj_good) z20 (mem_at (x := (a1, t1)) 11 rfl) (mem_at (x := (a3, t3)) 13 rfl) kb fun o21 H21 K21 nx21 z21 => ?_⟩
  have hCD2_21 := K21.lst hCD2_20 (by simp)
  refine step2 (L := 9 + d) (fun t u => BT.conj_good) z21 (mem_at (x := (o20, (BT.disj (9 + d) t1 t2))) 1 rfl) (mem_at (x := (o21, (BT.disj (9 + d) t1 t3))) 0 rfl) kb fun o22 H22 K22 nx22 z22 => ?_
  have hCD2_22 := K22.lst hCD2_21 (by simp)
  refine eqT (L := 9 + d) z22 (mem_at (x := (o19, (BT.disj (9 + d) t1 (BT.conj (9 + d) t2 t3)))) 3 rfl) (mem_at (x := (o22, (BT.conj (9 + d) (BT.disj (9 + d) t1 t2) (BT.disj (9 + d) t1 t3)))) 0 rfl) (BT.law_dist2 g1 g2 g3) ⟨false, rfl, ?_⟩
  refine (show if false = true then _ else _ from iteF ?_)
  refine ⟨_, rfl, _, rfl, _, rfl, _, rfl, _, rfl, step2 (L := 9 + d) (fun t u => BT.disj_good) z22 (mem_at (x := (a1, t1)) 13 rfl) (mem_at (x := (a2, t2)) 14 rfl) kb fun o23 H23 K23 nx23 z23 => ?_⟩
  have hCD2_23 := K23.lst hCD2_22 (by simp)
  refine step2 (L := 9 + d) (fun t u => BT.conj_good) z23 (mem_at (x := (a1, t1)) 14 rfl) (mem_at (x := (o23, (BT.disj (9 + d) t1 t2))) 0 rfl) kb fun o24 H24 K24 nx24 z24 => ?_
  have hCD2_24 := K24.lst hCD2_23 (by simp)
  refine ⟨_, rfl, eqT (L := 9 + d) z24 (mem_at (x := (o24, (BT.conj (9 + d) t1 (BT.disj (9 + d) t1 t2)))) 0 rfl) (mem_at (x := (a1, t1)) 15 rfl) (BT.law_absorb g1 g2) ⟨false, rfl, ?_⟩⟩
  refine (show if false = true then _ else _ from iteF ?_)
  refine ⟨_, rfl, _, rfl, _, rfl, D2, _, 0, _, rfl, rfl, SqL.of hCD2_24, rfl, step2 (L := 9 + d) (fun t u => BT.disj_good) z24 (mem_at (x := (a1, t1)) 15 rfl) (mem_at (x := (b1, (BT.neg (9 + d) t1))) 18 rfl) kb fun o25 H25 K25 nx25 z25 => ?_⟩
  have hCD2_25 := K25.lst hCD2_24 (by simp)
  refine ⟨_, rfl, _, _, rfl, rfl, (show (1 : Int) ≤ 9 + (d : Int) by omega), (show 9 + (d : Int) ≤ 1000 by omega), (by decide +kernel), (show 1 ≤ sizeLine by decide), fun q26 hq26 => ?_⟩
  have z26 := z25.new hq26 (.tup [V.str (Txt.mul (Str.ofString "*") ((9 + d : Nat) : Int))])
  have hC_26 := (KeepX.new (fp := []) hq26 (.tup [V.str (Txt.mul (Str.ofString "*") ((9 + d : Nat) : Int))])).lst hCD2_25 (by simp)
  refine eqFull (L := 9 + d) z26 (mem_at (x := (o25, (BT.disj (9 + d) t1 (BT.neg (9 + d) t1)))) 0 rfl) (BT.law_full g1) upd_same ⟨false, rfl, ?_⟩
  refine (show if false = true then _ else _ from iteF ?_)
  refine ⟨_, rfl, _, rfl, _, rfl, _, rfl, _, rfl, step2 (L := 9 + d) (fun t u => BT.conj_good) z26 (mem_at (x := (a1, t1)) 16 rfl) (mem_at (x := (a2, t2)) 17 rfl) kb fun o27 H27 K27 nx27 z27 => ?_⟩
  have hCD2_27 := K27.lst hC_26 (by simp)
  refine ⟨_, rfl, _, rfl, _, rfl, step2 (L := 9 + d) (fun t u => BT.disj_good) z27 (mem_at (x := (a1, t1)) 17 rfl) (mem_at (x := (a2, t2)) 18 rfl) kb fun o28 H28 K28 nx28 z28 => ?_⟩
  have hCD2_28 := K28.lst hCD2_27 (by simp)
  have hsz : BT.many (9 + d) t1 + BT.many (9 + d) t2 = BT.many (9 + d) (BT.conj (9 + d) t1 t2) + BT.many (9 + d) (BT.disj (9 + d) t1 t2) := BT.many_add g1 g2
  refine ⟨show 4 ≤ sizeLine by decide, fun Y2 hY2 => ⟨Y2, rfl, ⟨_, SqT.of upd_same⟩, fun D3 hD3' => ?_⟩⟩
  have hY2D : Y2 ≠ D3 := fun e => by rw [e, upd_same] at hD3'; cases hD3'
  have zA := (z28.new hY2 (.tup [.ref a1, .ref a2, .ref o27, .ref o28])).new hD3' (.lst [])
  have hCA := (KeepX.new (fp := []) hD3' (.lst [])).lst ((KeepX.new (fp := []) hY2 (.tup [.ref a1, .ref a2, .ref o27, .ref o28])).lst hCD2_28 (by simp)) (by simp)
  have hD23 : D2 ≠ D3 := fun e => by rw [← e, (KeepX.new (fp := []) hY2 (.tup [.ref a1, .ref a2, .ref o27, .ref o28])).lst hCD2_28 (by simp)] at hD3'; cases hD3'
  have haD3 : a ≠ D3 := fun e => by obtain ⟨x, y, w, e2, _⟩ := (z28.new hY2 (.tup [.ref a1, .ref a2, .ref o27, .ref o28])).pot; rw [e, hD3'] at e2; cases e2
  refine lc_tup (xs := [.ref a1, .ref a2, .ref o27, .ref o28]) (fun i H' => H' Y2 = some (.tup [.ref a1, .ref a2, .ref o27, .ref o28]) ∧ H' D2 = some (.lst [.ref b1, .ref b2, .ref b3]) ∧ H' D3 = some (.lst (([t1, t2, (BT.conj (9 + d) t1 t2), (BT.disj (9 + d) t1 t2)].take i).map fun t => V.int (BT.many (9 + d) t : Nat))) ∧ Zs K a (9 + d) H' 181 [(o28, (BT.disj (9 + d) t1 t2)), (o27, (BT.conj (9 + d) t1 t2)), (o25, (BT.disj (9 + d) t1 (BT.neg (9 + d) t1))), (o24, (BT.conj (9 + d) t1 (BT.disj (9 + d) t1 t2))), (o23, (BT.disj (9 + d) t1 t2)), (o22, (BT.conj (9 + d) (BT.disj (9 + d) t1 t2) (BT.disj (9 + d) t1 t3))), (o21, (BT.disj (9 + d) t1 t3)), (o20, (BT.disj (9 + d) t1 t2)), (o19, (BT.disj (9 + d) t1 (BT.conj (9 + d) t2 t3))), (o18, (BT.conj (9 + d) t2 t3)), (o17, (BT.disj (9 + d) (BT.conj (9 + d) t1 t2) (BT.conj (9 + d) t1 t3))), (o16, (BT.conj (9 + d) t1 t3)), (o15, (BT.conj (9 + d) t1 t2)), (o14, (BT.conj (9 + d) t1 (BT.disj (9 + d) t2 t3))), (o13, (BT.disj (9 + d) t2 t3)), (o12, (BT.disj (9 + d) (BT.neg (9 + d) t1) (BT.neg (9 + d) t2))), (o11, (BT.neg (9 + d) (BT.conj (9 + d) t1 t2))), (o10, (BT.conj (9 + d) t1 t2)), (a1, t1), (a2, t2), (a3, t3), (b1, (BT.neg (9 + d) t1)), (b2, (BT.neg (9 + d) t2)), (b3, (BT.neg (9 + d) t3))])
    ⟨by rw [upd_ne hY2D]; exact upd_same, hCA, upd_same, zA⟩ (fun i H' _ p => SqT.of p.1) ?_ ?_
  · rintro i x HA hi ⟨hY3, hDA, hDB, zB⟩
    obtain ⟨b, t, rfl, hbt, ht⟩ : ∃ b t, x = V.ref b ∧ (b, t) ∈ [(o28, (BT.disj (9 + d) t1 t2)), (o27, (BT.conj (9 + d) t1 t2)), (o25, (BT.disj (9 + d) t1 (BT.neg (9 + d) t1))), (o24, (BT.conj (9 + d) t1 (BT.disj (9 + d) t1 t2))), (o23, (BT.disj (9 + d) t1 t2)), (o22, (BT.conj (9 + d) (BT.disj (9 + d) t1 t2) (BT.disj (9 + d) t1 t3))), (o21, (BT.disj (9 + d) t1 t3)), (o20, (BT.disj (9 + d) t1 t2)), (o19, (BT.disj (9 + d) t1 (BT.conj (9 + d) t2 t3))), (o18, (BT.conj (9 + d) t2 t3)), (o17, (BT.disj (9 + d) (BT.conj (9 + d) t1 t2) (BT.conj (9 + d) t1 t3))), (o16, (BT.conj (9 + d) t1 t3)), (o15, (BT.conj (9 + d) t1 t2)), (o14, (BT.conj (9 + d) t1 (BT.disj (9 + d) t2 t3))), (o13, (BT.disj (9 + d) t2 t3)), (o12, (BT.disj (9 + d) (BT.neg (9 + d) t1) (BT.neg (9 + d) t2))), (o11, (BT.neg (9 + d) (BT.conj (9 + d) t1 t2))), (o10, (BT.conj (9 + d) t1 t2)), (a1, t1), (a2, t2), (a3, t3), (b1, (BT.neg (9 + d) t1)), (b2, (BT.neg (9 + d) t2)), (b3, (BT.neg (9 + d) t3))] ∧ [t1, t2, (BT.conj (9 + d) t1 t2), (BT.disj (9 + d) t1 t2)][i]? = some t := by
      have hi4 : i < 4 := (List.getElem?_eq_some_iff.mp hi).1
      match i, hi, hi4 with
      | 0, hi, _ => cases hi; exact ⟨a1, _, rfl, (mem_at (x := (a1, t1)) 18 rfl), rfl⟩
      | 1, hi, _ => cases hi; exact ⟨a2, _, rfl, (mem_at (x := (a2, t2)) 19 rfl), rfl⟩
      | 2, hi, _ => cases hi; exact ⟨o27, _, rfl, (mem_at (x := (o27, (BT.conj (9 + d) t1 t2))) 1 rfl), rfl⟩
      | 3, hi, _ => cases hi; exact ⟨o28, _, rfl, (mem_at (x := (o28, (BT.disj (9 + d) t1 t2))) 0 rfl), rfl⟩
    refine ⟨rfl, _, rfl, _, rfl, 9 + d, b, t, by rw [← hwid], zB.l1, zB.l16, zB.tab, zB.all _ hbt, fun HB KB hTB => ?_⟩
    have zC := zB.keep KB hTB
    have hDB2 := KB.lst hDB (by simp)
    refine ⟨_, hDB2, by rw [List.length_map, List.length_take]; exact small1000 (by simp; omega), ?_, ?_, ?_, ?_⟩
    · rw [upd_ne hY2D]; exact KB.tup hY3 (by simp)
    · rw [upd_ne hD23]; exact KB.lst hDA (by simp)
    · exact upd_same.trans (by rw [List.take_add_one, ht, List.map_append]; rfl)
    · exact zC.lst hDB2 haD3 _
  rintro HE ⟨hYE, hDE, hDS, zE⟩
  clear zA hCA hD3' hY2 hYE
  refine ⟨_, rfl, D3, _, 0, _, rfl, rfl, SqL.of hDS, rfl, _, rfl, D3, _, 1, _, rfl, rfl, SqL.of hDS, rfl, _, _, rfl, rfl, _, rfl, D3, _, 2, _, rfl, rfl, SqL.of hDS, rfl, _, rfl, D3, _, 3, _, rfl, rfl, SqL.of hDS, rfl, _, _, rfl, rfl, rfl, _, rfl, ?_⟩
  refine iteF' (by
    have e : ((BT.many (9 + d) t1 : Nat) : Int) + (BT.many (9 + d) t2 : Nat) = (BT.many (9 + d) (BT.conj (9 + d) t1 t2) : Nat) + (BT.many (9 + d) (BT.disj (9 + d) t1 t2) : Nat) := by exact_mod_cast hsz
    show (!decide (V.int (_ + _) = V.int (_ + _))) = false
    rw [e]; simp) ?_
  refine ⟨⟨_, rfl⟩, _, rfl, ((9 + d : Nat) : Int), rfl, by omega, by omega, fun D4 hD4 => ?_⟩
  have haD4 : a ≠ D4 := fun e => by obtain ⟨x, y, w, e2, _⟩ := zE.pot; rw [e, hD4] at e2; cases e2
  have hD24 : D2 ≠ D4 := fun e => by rw [← e, hDE] at hD4; cases hD4
  have hD24' : D3 ≠ D4 := fun e => by rw [← e, hDS] at hD4; cases hD4
  refine lc_range (lo := 0) (n := (((9 + d : Nat) : Int)).toNat) (fun i H' => ∃ cs : List Nat, cs.length = i ∧ (∀ ch ∈ cs, ch = 48 ∨ ch = 49 ∨ ch = 61) ∧ H' D4 = some (.lst (cs.map fun ch => V.str ⟨#[ch]⟩)) ∧ H' D2 = some (.lst [.ref b1, .ref b2, .ref b3]) ∧ Zs K a (9 + d) H' (181 + i) [(o28, (BT.disj (9 + d) t1 t2)), (o27, (BT.conj (9 + d) t1 t2)), (o25, (BT.disj (9 + d) t1 (BT.neg (9 + d) t1))), (o24, (BT.conj (9 + d) t1 (BT.disj (9 + d) t1 t2))), (o23, (BT.disj (9 + d) t1 t2)), (o22, (BT.conj (9 + d) (BT.disj (9 + d) t1 t2) (BT.disj (9 + d) t1 t3))), (o21, (BT.disj (9 + d) t1 t3)), (o20, (BT.disj (9 + d) t1 t2)), (o19, (BT.disj (9 + d) t1 (BT.conj (9 + d) t2 t3))), (o18, (BT.conj (9 + d) t2 t3)), (o17, (BT.disj (9 + d) (BT.conj (9 + d) t1 t2) (BT.conj (9 + d) t1 t3))), (o16, (BT.conj (9 + d) t1 t3)), (o15, (BT.conj (9 + d) t1 t2)), (o14, (BT.conj (9 + d) t1 (BT.disj (9 + d) t2 t3))), (o13, (BT.disj (9 + d) t2 t3)), (o12, (BT.disj (9 + d) (BT.neg (9 + d) t1) (BT.neg (9 + d) t2))), (o11, (BT.neg (9 + d) (BT.conj (9 + d) t1 t2))), (o10, (BT.conj (9 + d) t1 t2)), (a1, t1), (a2, t2), (a3, t3), (b1, (BT.neg (9 + d) t1)), (b2, (BT.neg (9 + d) t2)), (b3, (BT.neg (9 + d) t3))])
    ⟨[], rfl, (by simp), upd_same, by rw [upd_ne hD24]; exact hDE, zE.new hD4 _⟩ ?_ ?_
  · rintro i HA hi ⟨cs, hcs, hin, hDA, hDB, zF⟩
    have hi' : i < 9 + d := by have h0 := hi; simp at h0; omega
    refine ⟨rfl, _, rfl, a, Str.ofString "01====", 181 + i, rfl, zF.pot, by omega, by decide +kernel, by decide +kernel, fun ch HB hch KB hpB => ?_⟩
    have hDA2 := KB D4 _ hDA (by simpa using fun e => haD4 e.symm)
    have zG := zF.dig KB hpB
    have haD2 : D2 ≠ a := fun e => by obtain ⟨x, y, w, e2, _⟩ := zF.pot; rw [← e, hDB] at e2; cases e2
    have hDB2 := KB D2 _ hDB (by simpa using haD2)
    refine ⟨_, hDA2, by rw [List.length_map, hcs]; exact small1000 (by omega), cs ++ [ch], by rw [List.length_append, hcs]; rfl, fun c' hc' => ?_, ?_, by rw [upd_ne hD24]; exact hDB2, zG.lst hDA2 haD4 _⟩
    · rcases List.mem_append.mp hc' with h | h
      · exact hin c' h
      · rw [List.mem_singleton.mp h]
        have : ∀ ch ∈ (Str.ofString "01====").cps.toList, ch = 48 ∨ ch = 49 ∨ ch = 61 := by decide +kernel
        exact this ch hch
    · exact upd_same.trans (by rw [List.map_append]; rfl)
  rintro HF ⟨cs, hcs, hin, hDM, hDF, zF⟩
  rw [Int.toNat_natCast] at hcs
  have hsum : ∀ cs : List Nat, ((cs.map fun ch => (⟨#[ch]⟩ : Str)).map (·.length)).sum = cs.length := by
    intro cs
    induction cs with
    | nil => rfl
    | cons o q ih => rw [List.map_cons, List.map_cons, List.sum_cons, ih, List.length_cons]; show 1 + _ = _; omega
  refine ⟨_, D4, cs.map fun ch => (⟨#[ch]⟩ : Str), rfl, rfl, .inl (SqL.of (by rw [hDM, List.map_map]; rfl)), ?_, ?_⟩
  · rw [hsum, List.length_map]
    have e : (Str.ofString "").length = 0 := by decide +kernel
    rw [e]
    omega
  have ej := join_chars cs
  rw [← TL.join_eq] at ej
  generalize Txt.join (Str.ofString "") (cs.map fun ch => (⟨#[ch]⟩ : Str)) = y at ej ⊢
  have ey : y.cps.toList = cs := ej
  have hyl : y.length = 9 + d := by rw [← hcs, ← ey, Array.length_toList]; rfl
  obtain ⟨m, hm, rfl⟩ : ∃ m : BT.Pat, m.length = 9 + d ∧ y = txtC 61 m := ⟨pat y, by rw [len_pat]; exact hyl, (txtC_pat (s := 61) (by rw [ey]; exact hin) (by decide) (by decide)).symm⟩
  clear ej ey hin hcs hDM hyl hsum hD4
  replace zF := zF.mono (show _ ≤ 300 by have : (((9 + d : Nat) : Int)).toNat = 9 + d := Int.toNat_natCast _; omega)
  refine ⟨_, rfl, _, rfl, _, rfl, stepM (L := 9 + d) (op := BT.put) (fun t => BT.put_good) zF (mem_at (x := (a1, t1)) 18 rfl) hm kb fun o30 H30 K30 nx30 z30 => ?_⟩
  have hCD2_30 := K30.lst hDF (by simp)
  refine ⟨_, rfl, _, rfl, _, rfl, stepM (L := 9 + d) (op := BT.putb) (fun t => BT.putb_good) z30 (mem_at (x := (a1, t1)) 19 rfl) hm kb fun o31 H31 K31 nx31 z31 => ?_⟩
  have hCD2_31 := K31.lst hCD2_30 (by simp)
  refine ⟨_, _, rfl, ?_⟩
  refine ⟨_, rfl, _, rfl, _, rfl, stepM (L := 9 + d) (op := BT.put) (fun t => BT.put_good) z31 (mem_at (x := (o31, (BT.putb (9 + d) t1 m))) 0 rfl) hm kb fun o32 H32 K32 nx32 z32 => ?_⟩
  have hCD2_32 := K32.lst hCD2_31 (by simp)
  refine ⟨_, rfl, _, rfl, _, rfl, stepM (L := 9 + d) (op := BT.put) (fun t => BT.put_good) z32 (mem_at (x := (o30, (BT.put (9 + d) t1 m))) 2 rfl) hm kb fun o33 H33 K33 nx33 z33 => ?_⟩
  have hCD2_33 := K33.lst hCD2_32 (by simp)
  refine ⟨_, rfl, eqT (L := 9 + d) z33 (mem_at (x := (o33, (BT.put (9 + d) (BT.put (9 + d) t1 m) m))) 0 rfl) (mem_at (x := (o30, (BT.put (9 + d) t1 m))) 3 rfl) (BT.law_put_put g1 hm) ⟨false, rfl, ?_⟩⟩
  refine (show if false = true then _ else _ from iteF ?_)
  refine ⟨_, rfl, _, rfl, _, rfl, step2 (L := 9 + d) (fun t u => BT.conj_good) z33 (mem_at (x := (o32, (BT.put (9 + d) (BT.putb (9 + d) t1 m) m))) 1 rfl) (mem_at (x := (a1, t1)) 22 rfl) kb fun o34 H34 K34 nx34 z34 => ?_⟩
  have hCD2_34 := K34.lst hCD2_33 (by simp)
  refine ⟨_, rfl, eqT (L := 9 + d) z34 (mem_at (x := (o34, (BT.conj (9 + d) (BT.put (9 + d) (BT.putb (9 + d) t1 m) m) t1))) 0 rfl) (mem_at (x := (o32, (BT.put (9 + d) (BT.putb (9 + d) t1 m) m))) 2 rfl) (BT.law_again g1 hm) ⟨false, rfl, ?_⟩⟩
  refine (show if false = true then _ else _ from iteF ?_)
  refine ⟨_, rfl, _, rfl, _, rfl, _, rfl, stepM (L := 9 + d) (op := BT.putb) (fun t => BT.putb_good) z34 (mem_at (x := (o30, (BT.put (9 + d) t1 m))) 4 rfl) hm kb fun o35 H35 K35 nx35 z35 => ?_⟩
  have hCD2_35 := K35.lst hCD2_34 (by simp)
  refine ⟨_, rfl, step2 (L := 9 + d) (fun t u => BT.conj_good) z35 (mem_at (x := (o35, (BT.putb (9 + d) (BT.put (9 + d) t1 m) m))) 0 rfl) (mem_at (x := (a1, t1)) 24 rfl) kb fun o36 H36 K36 nx36 z36 => ?_⟩
  have hCD2_36 := K36.lst hCD2_35 (by simp)
  refine ⟨_, rfl, eqT (L := 9 + d) z36 (mem_at (x := (o36, (BT.conj (9 + d) (BT.putb (9 + d) (BT.put (9 + d) t1 m) m) t1))) 0 rfl) (mem_at (x := (a1, t1)) 25 rfl) (BT.law_back g1 hm) ⟨false, rfl, ?_⟩⟩
  refine (show if false = true then _ else _ from iteF ?_)
  refine ⟨_, rfl, _, rfl, _, rfl, stepM (L := 9 + d) (op := BT.putb) (fun t => BT.putb_good) z36 (mem_at (x := (o31, (BT.putb (9 + d) t1 m))) 5 rfl) hm kb fun o37 H37 K37 nx37 z37 => ?_⟩
  have hCD2_37 := K37.lst hCD2_36 (by simp)
  refine ⟨_, rfl, eqT (L := 9 + d) z37 (mem_at (x := (o37, (BT.putb (9 + d) (BT.putb (9 + d) t1 m) m))) 0 rfl) (mem_at (x := (o31, (BT.putb (9 + d) t1 m))) 6 rfl) (BT.law_back2 g1 hm) ⟨false, rfl, ?_⟩⟩
  refine (show if false = true then _ else _ from iteF ?_)
  refine ⟨_, rfl, _, rfl, _, rfl, _, rfl, step2 (L := 9 + d) (fun t u => BT.disj_good) z37 (mem_at (x := (a1, t1)) 26 rfl) (mem_at (x := (a2, t2)) 27 rfl) kb fun o38 H38 K38 nx38 z38 => ?_⟩
  have hCD2_38 := K38.lst hCD2_37 (by simp)
  refine ⟨_, rfl, stepM (L := 9 + d) (op := BT.put) (fun t => BT.put_good) z38 (mem_at (x := (o38, (BT.disj (9 + d) t1 t2))) 0 rfl) hm kb fun o39 H39 K39 nx39 z39 => ?_⟩
  have hCD2_39 := K39.lst hCD2_38 (by simp)
  refine ⟨_, rfl, _, rfl, _, rfl, _, rfl, _, rfl, stepM (L := 9 + d) (op := BT.put) (fun t => BT.put_good) z39 (mem_at (x := (a2, t2)) 29 rfl) hm kb fun o40 H40 K40 nx40 z40 => ?_⟩
  have hCD2_40 := K40.lst hCD2_39 (by simp)
  refine step2 (L := 9 + d) (fun t u => BT.disj_good) z40 (mem_at (x := (o30, (BT.put (9 + d) t1 m))) 10 rfl) (mem_at (x := (o40, (BT.put (9 + d) t2 m))) 0 rfl) kb fun o41 H41 K41 nx41 z41 => ?_
  have hCD2_41 := K41.lst hCD2_40 (by simp)
  refine eqT (L := 9 + d) z41 (mem_at (x := (o39, (BT.put (9 + d) (BT.disj (9 + d) t1 t2) m))) 2 rfl) (mem_at (x := (o41, (BT.disj (9 + d) (BT.put (9 + d) t1 m) (BT.put (9 + d) t2 m)))) 0 rfl) (BT.law_put_or g1 g2 hm) ⟨false, rfl, ?_⟩
  refine (show if false = true then _ else _ from iteF ?_)
  refine ⟨_, rfl, _, rfl, D2, _, 0, _, rfl, rfl, SqL.of hCD2_41, rfl, _, rfl, stepM (L := 9 + d) (op := BT.putb) (fun t => BT.putb_good) z41 (mem_at (x := (b1, (BT.neg (9 + d) t1))) 33 rfl) hm kb fun o42 H42 K42 nx42 z42 => ?_⟩
  have hCD2_42 := K42.lst hCD2_41 (by simp)
  refine ⟨_, rfl, _, rfl, stepO (L := 9 + d) z42 (mem_at (x := (o31, (BT.putb (9 + d) t1 m))) 11 rfl) kb fun o43 H43 K43 nx43 z43 => ?_⟩
  have hCD2_43 := K43.lst hCD2_42 (by simp)
  refine eqT (L := 9 + d) z43 (mem_at (x := (o42, (BT.putb (9 + d) (BT.neg (9 + d) t1) m))) 1 rfl) (mem_at (x := (o43, (BT.neg (9 + d) (BT.putb (9 + d) t1 m)))) 0 rfl) (BT.law_not_back g1 hm) ⟨false, rfl, ?_⟩
  refine (show if false = true then _ else _ from iteF ?_)
  refine ⟨_, rfl, _, rfl, _, rfl, _, rfl, D2, _, 1, _, rfl, rfl, SqL.of hCD2_43, rfl, show 4 ≤ sizeLine by decide, fun Y4 hY4 => ?_⟩
  have zL : Zs K a (9 + d) _ 300 [(a1, t1), (o30, (BT.put (9 + d) t1 m)), (o31, (BT.putb (9 + d) t1 m)), (b2, (BT.neg (9 + d) t2)), (a3, t3), (b3, (BT.neg (9 + d) t3))] := (z43.new hY4 (.tup [.ref a1, .ref o30, .ref o31, .ref b2])).sub (by intro y hy; simp only [List.mem_cons, List.not_mem_nil, or_false] at hy ⊢; rcases hy with h | h | h | h | h | h <;> simp [h])
  have hDL := (KeepX.new (fp := []) hY4 (.tup [.ref a1, .ref o30, .ref o31, .ref b2])).lst hCD2_43 (by simp)
  refine ⟨Y4, rfl, ⟨_, SqT.of upd_same⟩, for_tup (xs := [.ref a1, .ref o30, .ref o31, .ref b2]) (fun i σ H' => ∃ v2 v6 v9 v14 : Option V, σ = [some (.ref a), some (.int ((9 + d : Nat) : Int)), v2, some (.ref a1), some (.ref a2), some (.ref a3), v6, some (.ref D2), some (.ref D3), v9, some (.str (txtC 61 m)), some (.ref o30), some (.ref o31), some (.ref o32), v14] ∧ H' Y4 = some (.tup [.ref a1, .ref o30, .ref o31, .ref b2]) ∧ H' D2 = some (.lst [.ref b1, .ref b2, .ref b3]) ∧ Zs K a (9 + d) H' 300 [(a1, t1), (o30, (BT.put (9 + d) t1 m)), (o31, (BT.putb (9 + d) t1 m)), (b2, (BT.neg (9 + d) t2)), (a3, t3), (b3, (BT.neg (9 + d) t3))])
    ⟨_, _, _, _, rfl, upd_same, hDL, zL⟩ (fun i σ H' _ p => by obtain ⟨_, _, _, _, _, h, _⟩ := p; exact SqT.of h) ?_ ?_⟩
  · rintro i x σ HA hi ⟨v2, v6, v9, v14, rfl, hYA, hDA, zA⟩
    obtain ⟨b, t, rfl, hbt⟩ : ∃ b t, x = V.ref b ∧ (b, t) ∈ [(a1, t1), (o30, (BT.put (9 + d) t1 m)), (o31, (BT.putb (9 + d) t1 m)), (b2, (BT.neg (9 + d) t2)), (a3, t3), (b3, (BT.neg (9 + d) t3))] := by
      have hi4 : i < 4 := (List.getElem?_eq_some_iff.mp hi).1
      match i, hi, hi4 with
      | 0, hi, _ => cases hi; exact ⟨a1, _, rfl, mem_at (x := (a1, t1)) 0 rfl⟩
      | 1, hi, _ => cases hi; exact ⟨o30, _, rfl, mem_at (x := (o30, (BT.put (9 + d) t1 m))) 1 rfl⟩
      | 2, hi, _ => cases hi; exact ⟨o31, _, rfl, mem_at (x := (o31, (BT.putb (9 + d) t1 m))) 2 rfl⟩
      | 3, hi, _ => cases hi; exact ⟨b2, _, rfl, mem_at (x := (b2, (BT.neg (9 + d) t2))) 3 rfl⟩
    have gt : BT.Good (9 + d) t := (zA.all _ hbt).good
    refine ⟨_, rfl, _, rfl, 9 + d, b, t, rfl, zA.l1, zA.l16, zA.tab, zA.all _ hbt, fun HB KB hTB => ?_⟩
    have zB := zA.keep KB hTB
    refine ⟨_, _, rfl, rfl, _, rfl, ?_⟩
    refine (show if false = true then _ else _ from iteF ?_)
    refine ⟨_, rfl, _, rfl, b, _, rfl, SqT.of (zB.all _ hbt).at_, fun Y5 hY5 => ?_⟩
    refine stepRev (L := 9 + d) (zB.new hY5 _) hbt upd_same kb fun o5 HC KC nxC zC => ?_
    refine ⟨_, rfl, eqT (L := 9 + d) zC List.mem_cons_self (List.mem_cons_of_mem _ hbt) rfl ⟨false, rfl, ?_⟩⟩
    refine (show if false = true then _ else _ from iteF ?_)
    replace zC := zC.sub (ys := [(a1, t1), (o30, (BT.put (9 + d) t1 m)), (o31, (BT.putb (9 + d) t1 m)), (b2, (BT.neg (9 + d) t2)), (a3, t3), (b3, (BT.neg (9 + d) t3))]) fun y hy => List.mem_cons_of_mem _ hy
    have KAC : KeepX [] HA HC := (KB.trans (KeepX.new (fp := []) hY5 _)).trans KC
    refine ⟨_, rfl, _, rfl, 9 + d, b, t, rfl, zC.l1, zC.l16, zC.tab, zC.all _ hbt, fun e HD KD hTD => ?_, fun e HD KD hTD => ?_⟩
    · have zD := zC.keep KD hTD
      subst e
      refine ⟨_, rfl, rfl, _, rfl, (show 0 ≤ sizeLine by decide), fun Y6 hY6 => ?_⟩
      have zE' := zD.new hY6 (.tup [])
      refine eqNone (L := 9 + d) false zE' hbt upd_same ⟨rfl, _, rfl, ?_⟩
      refine (show if false = true then _ else _ from iteF ?_)
      refine ⟨_, rfl, rfl, _, rfl, ?_⟩
      refine (show if false = true then _ else _ from iteF ?_)
      refine ⟨_, rfl, (show 0 ≤ sizeLine by decide), fun Y7 hY7 => ?_⟩
      have zG' := zE'.new hY7 (.tup [])
      refine eqNone (L := 9 + d) true zG' hbt upd_same ⟨_, rfl, ?_⟩
      refine (show if false = true then _ else _ from iteF ?_)
      have KF := ((KAC.trans KD).trans (KeepX.new (fp := []) hY6 (.tup []))).trans (KeepX.new (fp := []) hY7 (.tup []))
      exact ⟨_, _, _, _, rfl, KF.tup hYA (by simp), KF.lst hDA (by simp), zG'⟩
    · have zD := zC.keep KD hTD
      have hden : BT.den t (BT.rowOf (BT.first (9 + d) 0 t)) = true := BT.first_row gt e
      refine ⟨_, rfl, rfl, _, rfl, (show 0 ≤ sizeLine by decide), fun Y6 hY6 => ?_⟩
      have zE' := zD.new hY6 (.tup [])
      refine eqNone (L := 9 + d) false zE' hbt upd_same ?_
      rw [decide_eq_false e]
      refine ⟨rfl, _, rfl, ?_⟩
      refine (show if false = true then _ else _ from iteF ?_)
      refine ⟨_, rfl, rfl, _, rfl, ?_⟩
      refine (show if true = true then _ else _ from iteT ?_)
      refine ⟨_, rfl, _, rfl, _, rfl, 9 + d, b, t, BT.first (9 + d) 0 t, rfl, zE'.l1, zE'.l16, zE'.tab, zE'.all _ hbt, BT.first_len _ 0 t, fun HG KG hTG => ?_⟩
      have zG' := zE'.keep KG hTG
      rw [hden]
      refine ⟨_, rfl, ?_⟩
      refine (show if false = true then _ else _ from iteF ?_)
      refine ⟨_, rfl, (show 0 ≤ sizeLine by decide), fun Y7 hY7 => ?_⟩
      have zI := zG'.new hY7 (.tup [])
      refine eqNone (L := 9 + d) true zI hbt upd_same ?_
      rw [decide_eq_false e]
      refine ⟨_, rfl, ?_⟩
      refine (show if true = true then _ else _ from iteT ?_)
      refine ⟨_, rfl, _, rfl, 9 + d, b, t, rfl, zI.l1, zI.l16, zI.tab, zI.all _ hbt, fun HJ KJ hTJ => ?_⟩
      have zJ := zI.keep KJ hTJ
      refine ⟨_, rfl, _, rfl, _, rfl, _, rfl, _, _, rfl, rfl, (show (1 : Int) ≤ 9 + (d : Int) by omega), (show 9 + (d : Int) ≤ 1000 by omega), (by decide +kernel), ?_⟩
      refine stepStay (L := 9 + d) zJ hbt kb fun o9 HM KM nxM zM => ?_
      refine ⟨9 + d, o9, _, rfl, zM.l1, zM.l16, zM.tab, zM.all _ List.mem_cons_self, fun HN KN hTN => ?_⟩
      have zN := zM.keep KN hTN
      refine ⟨_, _, rfl, rfl, _, rfl, ?_⟩
      rw [BT.put_none gt]
      refine iteF' (decide_eq_false fun z => Int.lt_irrefl _ z) ?_
      have KF := ((((((KAC.trans KD).trans (KeepX.new (fp := []) hY6 (.tup []))).trans KG).trans (KeepX.new (fp := []) hY7 (.tup []))).trans KJ).trans KM).trans KN
      exact ⟨_, _, _, _, rfl, KF.tup hYA (by simp), KF.lst hDA (by simp), zN.sub fun y hy => List.mem_cons_of_mem _ hy⟩
  rintro σ HA ⟨v2, v6, v9, v14, rfl, hYA, hDA, zA⟩
  refine ⟨12, rfl, by decide, by decide, for_range (lo := 0) (n := 12) (fun i σ H' => ∃ v2 v6 v9 v14 : Option V, σ = [some (.ref a), some (.int ((9 + d : Nat) : Int)), v2, some (.ref a1), some (.ref a2), some (.ref a3), v6, some (.ref D2), some (.ref D3), v9, some (.str (txtC 61 m)), some (.ref o30), some (.ref o31), some (.ref o32), v14] ∧ H' D2 = some (.lst [.ref b1, .ref b2, .ref b3]) ∧ Zs K a (9 + d) H' (300 + 20 * i) [(a1, t1), (o30, (BT.put (9 + d) t1 m)), (o31, (BT.putb (9 + d) t1 m)), (b2, (BT.neg (9 + d) t2)), (a3, t3), (b3, (BT.neg (9 + d) t3))])
    ⟨_, _, _, _, rfl, hDA, zA⟩ ?_ ?_⟩
  · rintro i σ HB hi ⟨v2, v6, v9, v14, rfl, hDB, zB⟩
    refine ⟨_, rfl, _, rfl, a, 9 + d, Str.ofString "01", 300 + 20 * i, rfl, zB.pot, by omega, by omega, by decide +kernel, by decide +kernel, fun y HC hy hin KC hpC => ?_⟩
    obtain ⟨bs, hbs, rfl⟩ := htxt_of (y := y) fun ch hch => (show ∀ ch ∈ (Str.ofString "01").cps.toList, ch = 48 ∨ ch = 49 by decide +kernel) ch (hin ch hch)
    replace hbs : bs.length = 9 + d := by rw [← hy, len_htxt]
    have haD2 : D2 ≠ a := fun e => by obtain ⟨x, y, w, e2, _⟩ := zB.pot; rw [← e, hDB] at e2; cases e2
    have hDC := KC D2 _ hDB (by simpa using haD2)
    have zC := (zB.dig KC hpC).mono (show _ ≤ 300 + 20 * (i + 1) by omega)
    have hov := overL_len hbs hm
    refine ⟨_, rfl, _, rfl, _, rfl, 9 + d, o31, (BT.putb (9 + d) t1 m), bs, rfl, zC.l1, zC.l16, zC.tab, zC.all _ (mem_at (x := (o31, (BT.putb (9 + d) t1 m))) 2 rfl), hbs, fun H41 K41 hT_ => ?_⟩
    have z41 := zC.keep K41 hT_
    refine ⟨_, rfl, _, rfl, _, rfl, _, rfl, bs, m, rfl, by omega, by omega, fun H42 K42 => ?_⟩
    have z42 := z41.keeps K42
    refine ⟨9 + d, a1, t1, overL bs m, rfl, z42.l1, z42.l16, z42.tab, z42.all _ (mem_at (x := (a1, t1)) 0 rfl), hov, fun H43 K43 hT_ => ?_⟩
    have z43 := z42.keep K43 hT_
    rw [has_back g1 hbs hm]
    refine ⟨rfl, _, rfl, ?_⟩
    refine iteF' (by simp) ?_
    have K1 : KeepX [] HC H43 := (K41.trans K42.x).trans K43
    refine ⟨_, rfl, _, rfl, _, rfl, 9 + d, a1, t1, bs, rfl, z43.l1, z43.l16, z43.tab, z43.all _ (mem_at (x := (a1, t1)) 0 rfl), hbs, fun H44 K44 hT_ => ?_⟩
    have z44 := z43.keep K44 hT_
    cases hone : BT.den t1 (BT.rowOf bs)
    · refine ⟨_, rfl, ?_⟩
      refine (show if false = true then _ else _ from iteF ?_)
      refine ⟨_, rfl, _, rfl, D2, _, 2, _, rfl, rfl, SqL.of ((K1.trans K44).lst hDC (by simp)), rfl, _, rfl, 9 + d, b3, (BT.neg (9 + d) t3), bs, rfl, z44.l1, z44.l16, z44.tab, z44.all _ (mem_at (x := (b3, (BT.neg (9 + d) t3))) 5 rfl), hbs, fun H47 K47 hT_ => ?_⟩
      have z47 := z44.keep K47 hT_
      refine ⟨_, rfl, _, rfl, _, rfl, 9 + d, a3, t3, bs, rfl, z47.l1, z47.l16, z47.tab, z47.all _ (mem_at (x := (a3, t3)) 4 rfl), hbs, fun H48 K48 hT_ => ?_⟩
      have z48 := z47.keep K48 hT_
      rw [BT.neg_den g3]
      refine ⟨rfl, _, rfl, ?_⟩
      refine iteF' (by cases BT.den t3 (BT.rowOf bs) <;> rfl) ?_
      exact ⟨_, _, _, _, rfl, (((K1.trans K44).trans K47).trans K48).lst hDC (by simp), z48⟩
    · refine ⟨_, rfl, ?_⟩
      refine (show if true = true then _ else _ from iteT ?_)
      refine ⟨_, rfl, _, rfl, _, rfl, _, rfl, bs, m, rfl, by omega, by omega, fun H45 K45 => ?_⟩
      have z45 := z44.keeps K45
      refine ⟨9 + d, o30, (BT.put (9 + d) t1 m), overL bs m, rfl, z45.l1, z45.l16, z45.tab, z45.all _ (mem_at (x := (o30, (BT.put (9 + d) t1 m))) 1 rfl), hov, fun H46 K46 hT_ => ?_⟩
      have z46 := z45.keep K46 hT_
      rw [has_there g1 hbs hm hone]
      refine ⟨_, rfl, ?_⟩
      refine (show if false = true then _ else _ from iteF ?_)
      refine ⟨_, rfl, _, rfl, D2, _, 2, _, rfl, rfl, SqL.of ((((K1.trans K44).trans K45.x).trans K46).lst hDC (by simp)), rfl, _, rfl, 9 + d, b3, (BT.neg (9 + d) t3), bs, rfl, z46.l1, z46.l16, z46.tab, z46.all _ (mem_at (x := (b3, (BT.neg (9 + d) t3))) 5 rfl), hbs, fun H47 K47 hT_ => ?_⟩
      have z47 := z46.keep K47 hT_
      refine ⟨_, rfl, _, rfl, _, rfl, 9 + d, a3, t3, bs, rfl, z47.l1, z47.l16, z47.tab, z47.all _ (mem_at (x := (a3, t3)) 4 rfl), hbs, fun H48 K48 hT_ => ?_⟩
      have z48 := z47.keep K48 hT_
      rw [BT.neg_den g3]
      refine ⟨rfl, _, rfl, ?_⟩
      refine iteF' (by cases BT.den t3 (BT.rowOf bs) <;> rfl) ?_
      exact ⟨_, _, _, _, rfl, (((((K1.trans K44).trans K45.x).trans K46).trans K47).trans K48).lst hDC (by simp), z48⟩
  rintro σ HZ ⟨v2, v6, v9, v14, rfl, hDZ, zZ⟩
  exact k _
end
end Wv

end
section
set_option maxRecDepth 100000
set_option maxHeartbeats 0
/-! The head by one kernel run, printed by gen_k73.py. -/
namespace Wv
open PySem PySem.Spec PyProof.Rows L2
abbrev R : PySem.W.OpenRow := PySem.W.OpenLaw.row PySem.Challenge.rw_whereversent_k73_great_heads_put_togethe
abbrev hk : PySem.W.Hook := KxH.hookZ 5 fa fn [] tf ex fI vI
def ob (s : PySem.W.SharedT) : KxH.AlZ := KxH.obsZ 5 fa fn [] tf ex fI (HandSHeadRun.getT s)
theorem ob_eq (s : PySem.W.SharedT) : ob s = hk.obs s.abs := KxH.obsZ_eq (HandSHeadRun.getT_eq s)
def loose : List PySem.Str := (["_wall", "NetError", "BadHead", "BadHeads", "BadWidth", "BadMask", "BadPatterns", "TooMany", "NOTHING", "ALL", "Trees", "doubled", "is_integer", "is_between", "MOST_WIDTH", "MOST_PATTERNS", "SIGNS", "ANY", "STAY", "check_width", "is_row", "is_head_of", "is_pattern_of", "is_mask_of", "are_patterns", "signs_of", "tree_of", "told_heads", "is_heads_of", "check_heads"] : List PySem.Str) ++ (["check_head", "is_heads", "plain", "fits", "has_head", "both", "either", "others", "how_many", "head_of", "least_head", "check_mask", "put_into", "put_before", "_law_take", "_law_of", "_law_row", "_law_patterns", "_law_put", "_law_pot", "_law_heard", "_law_right"] : List PySem.Str)
theorem run (w : World) : HandSHeadRun.RunEq R (PySem.W.view R.prog [57]) hk ob 4000 loose w := by
  intro os
  kernel_rfl
end Wv

end
set_option maxRecDepth 100000
set_option maxHeartbeats 0
/-! The law, from its parts. -/
namespace Wv
open PySem PySem.Spec PyProof.Rows L2 LamX
section
variable {K : PySem.W.Frag} {mg : Str → Option Value} {w : World} {h : Heap} (T : Tp K mg w h)
include T
theorem Tp.ne : Ne (PySem.Challenge.rw_whereversent_k73_great_heads_put_togethe).prog K := by
  have e := T.exE
  unfold exE at e
  exact KxH.ne_ok (p1 := _) (p2 := _) (q1 := _) (q2 := _) (q3 := _) (q4 := _) (KxH.ba e).1 rfl (by decide +kernel) (T.ini.trans (by rfl))
theorem Tp.lx : LawX K := by
  have e := T.exE
  unfold exE at e
  obtain ⟨_, e⟩ := KxH.ba e
  obtain ⟨e1, e2⟩ := KxH.ba e
  exact ⟨of_decide_eq_true e1, xfB_ok e2⟩
theorem fin {fa : Addr} (KX : K.In h) (hmg : mg ("law" : Str) = some (.ref fa)) : LawAtS PySem.Challenge.rw_whereversent_k73_great_heads_put_togethe w K L2.CX0 50 63 "script" mg fa h := by
  obtain ⟨fd, F⟩ := T.F_law
  have e := hmg.symm.trans T.m_law
  cases e
  have b := FunD.bindsA (ps := ["script"]) F fun _ _ _ _ _ _ us hl => match us, hl with | [_], _ => rfl
  refine ⟨fd, tf.map (He.cT K), spLaw K, fun p hp => ?_, fun p hp => ?_, fun p hp => ?_, fun s v => b s [v] rfl, fun H a ns _ _ hT hS => ⟨a, ns, rfl, hS, fun q hq => ?_, fun _ => rfl⟩, fun base hK hG TB => ?_⟩
  · obtain ⟨q, hq, rfl⟩ := List.mem_map.mp hp
    exact T.c.empty q hq
  · obtain ⟨q, hq, rfl⟩ := List.mem_map.mp hp
    exact T.c.out q hq
  · obtain ⟨q, hq, rfl⟩ := List.mem_map.mp hp
    exact PySem.W.codeHd_of_K KX (T.c.hd q hq)
  · simp only [TT, List.mem_cons, List.not_mem_nil, or_false] at hq
    rcases hq with rfl | rfl
    · exact TabS.nil (hT _ (List.mem_map.mpr ⟨("Trees", some "below"), by simp [tf], rfl⟩))
    · exact TabS.nil (hT _ (List.mem_map.mpr ⟨("law", none), by simp [tf], rfl⟩))
  · exact ok_law T F (fun q hq => TB _ (List.mem_map.mpr ⟨q, hq, rfl⟩)) T.ne T.lx (ok_law_right T (fun q hq => TB _ (List.mem_map.mpr ⟨q, hq, rfl⟩)) T.ne)
end
end Wv
open PySem PySem.W PySem.Calls PyProof.Rows
set_option maxRecDepth 100000 in
set_option maxHeartbeats 0 in
theorem PySem.Challenge.cw_whereversent_k73_great_heads_put_togethe_holds : PySem.Challenge.rw_whereversent_k73_great_heads_put_togethe.Holds := by
  w_on; o_law
  refine HandSHeadRun.head_any (r := OpenLaw.row PySem.Challenge.rw_whereversent_k73_great_heads_put_togethe) (q := view (OpenLaw.row PySem.Challenge.rw_whereversent_k73_great_heads_put_togethe).prog [57]) (H := Wv.hk) (ob := Wv.ob) (M := 4000) (loose := Wv.loose) (d := HandSHeadRun.topDef (OpenLaw.row PySem.Challenge.rw_whereversent_k73_great_heads_put_togethe).prog 57) (kwd := []) Wv.ob_eq
    (by kernel_rfl) (fun s => by kernel_rfl) Wv.run (by kernel_rfl) (by kernel_rfl) (by kernel_rfl) (by rfl) (by first | assumption | decide +kernel) (by decide +kernel) ⟨rfl, rfl, rfl, rfl, rfl, by decide +kernel⟩ ?hw ?hc
  case hw => w_witness2
  case hc =>
    refine LamX.walk_ofTsE (l := PySem.Challenge.rw_whereversent_k73_great_heads_put_togethe) (n := 63) (k := 50) (x := "script") (CX := fun _ => L2.CX0) rfl (by decide) (by kernel_rfl) ⟨rfl, by decide, by decide⟩ ?F (fun _ _ _ _ _ z => z)
    intro w mg fa h Y G hmg0
    obtain ⟨K, KX, c⟩ := Y
    have hmg : mg ("law" : PySem.Str) = some (.ref fa) := by
      have e : (HandSHeadRun.topDef (OpenLaw.row PySem.Challenge.rw_whereversent_k73_great_heads_put_togethe).prog 57).name = ("law" : PySem.Str) := by kernel_rfl
      rw [← e]
      exact hmg0
    exact ⟨K, KX, Wv.fin ⟨KX, G, c.x, c.init⟩ KX hmg⟩

