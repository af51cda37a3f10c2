import PyProof.Rows.All
import Wide.All
import OpenK.AllK
import Wide.FinOn
import HandS.ForMost
import HandS.Exc
import HandS.ExcOwn
import HandS.WordsExc
import HandS.Defaults
import HandS.More
import HandS.Wide
import HandS.NoneIn
import HandS.Style
import HandS.TupAny
import HandS.TupMul
import HandS.IsInst
import HandS.DictComp
import HandS.Zip
import HandS.Conv
import HandS.HeadHook1
import HandS.HeadHook2
import HandS.Head0
import HandS.Head1
import HandS.Head2
import HandS.HeadEnd
import HandS.EndBits
import PySem.Challenge.RW_quietbroom_k96_keepers_whole
set_option Elab.async false
set_option linter.all false
set_option maxRecDepth 100000
set_option maxHeartbeats 0
/-! ### the generic layer: rules over lists and tuples alike, calls by name, one lemma a reading -/
namespace G
open PySem PySem.Spec PyProof.Rows L2
/-! #### a list or a tuple that is read -/
def Sq (K : PySem.W.Frag) (H : Hp) (a : Addr) (xs : List V) : Prop := SqL K H a xs ∨ SqT K H a xs
theorem Sq.l {K : PySem.W.Frag} {H : Hp} {a : Addr} {xs : List V} (h : H a = some (.lst xs)) : Sq K H a xs := .inl (.of h)
theorem Sq.t {K : PySem.W.Frag} {H : Hp} {a : Addr} {xs : List V} (h : H a = some (.tup xs)) : Sq K H a xs := .inr (.of h)
theorem rd_same {H H' : Hp} {a : Addr} {u : HO} (s : Same H H') (h : Rd H a u) : Rd H' a u := by
  rcases h with h | ⟨o, h⟩
  · exact .inl (s _ _ h)
  · exact .inr ⟨o, s _ _ h⟩
theorem sql_same {K : PySem.W.Frag} {H H' : Hp} {a : Addr} {xs : List V} (s : Same H H') (h : SqL K H a xs) : SqL K H' a xs := by
  rcases h with h | h
  · exact .inl (rd_same s h)
  · exact .inr h
theorem sqt_same {K : PySem.W.Frag} {H H' : Hp} {a : Addr} {xs : List V} (s : Same H H') (h : SqT K H a xs) : SqT K H' a xs := by
  rcases h with h | h
  · exact .inl (rd_same s h)
  · exact .inr h
theorem Sq.same {K : PySem.W.Frag} {H H' : Hp} {a : Addr} {xs : List V} (s : Same H H') (h : Sq K H a xs) : Sq K H' a xs := by
  rcases h with h | h
  · exact .inl (sql_same s h)
  · exact .inr (sqt_same s h)
theorem same_new {H : Hp} {p : Addr} {o : HO} (h : H p = none) : Same H (upd H p o) := fun b x e => by
  rw [upd_ne (ne_of_none e h)]
  exact e
theorem same_mut {H H' : Hp} {p : Addr} {o : HO} (s : Same H H') (h : H p = none) : Same H (upd H' p o) := fun b x e => by
  rw [upd_ne (ne_of_none e h)]
  exact s b x e
theorem get_ne {H : Hp} {a p : Addr} {o u : HO} (h : H a = some u) (n : a ≠ p) : upd H p o a = some u := by
  rw [upd_ne n]
  exact h
/-- the walked thing stays as it is -/
def Stays (K : PySem.W.Frag) (a : Addr) (xs : List V) (H H' : Hp) : Prop := (SqL K H a xs → SqL K H' a xs) ∧ (SqT K H a xs → SqT K H' a xs)
theorem Stays.same {K : PySem.W.Frag} {a : Addr} {xs : List V} {H H' : Hp} (s : Same H H') : Stays K a xs H H' := ⟨sql_same s, sqt_same s⟩
theorem stays_eq {K : PySem.W.Frag} {a : Addr} {xs : List V} {H H' : Hp} (e : H' a = H a) : Stays K a xs H H' := by
  have rd : ∀ u, Rd H a u → Rd H' a u := fun u h => by
    rcases h with h | ⟨o, h⟩
    · exact .inl (e.trans h)
    · exact .inr ⟨o, e.trans h⟩
  exact ⟨fun h => h.elim (fun h => .inl (rd _ h)) .inr, fun h => h.elim (fun h => .inl (rd _ h)) .inr⟩
/-! #### walks over a list or a tuple -/
section
variable {X : Cx}
def iOr (a b : TI) : TI := fun σ H R => a σ H R ∨ b σ H R
theorem pi_or {tg e : Expr} {a b : TI} (h : PI X tg e a) (h' : PI X tg e b) : PI X tg e (iOr a b) := ⟨fun pins s σ H R I q => q.elim (h.run pins s σ H R I) (h'.run pins s σ H R I)⟩
def gOr (a b : TG) : TG := fun v σ H Q => a v σ H Q ∨ b v σ H Q
theorem pg_or {tg : Expr} {a b : TG} (h : PG X tg a) (h' : PG X tg b) : PG X tg (gOr a b) := ⟨fun pins s σ H v u Q I r q => q.elim (h.run pins s σ H v u Q I r) (h'.run pins s σ H v u Q I r)⟩
/-- what is asked of a walked value: a list or a tuple -/
def rSeqIt (K : PySem.W.Frag) (R : It → Hp → Prop) : V → Hp → Prop := fun x H1 => ∃ a, x = .ref a ∧ (((∃ xs, SqL K H1 a xs) ∧ R (Itl K a) H1) ∨ ((∃ xs, SqT K H1 a xs) ∧ R (Itt K a) H1))
def iSeq (K : PySem.W.Frag) (tl : TE) : TI := fun σ H R => tl σ H (rSeqIt K R)
theorem pi_seq {tg l : Expr} {tl : TE} (hl : PE X l tl) : PI X tg l (iSeq X.K tl) := by
  refine ⟨fun pins s σ H R I h => ?_⟩
  refine thn (hl.run pins s σ H _ I h) fun v s1 ⟨x, H1, I1, r1, q1⟩ => ?_
  obtain ⟨a, e, q⟩ := q1
  subst e
  cases r1
  rcases q with ⟨⟨xs, hq⟩, q⟩ | ⟨⟨xs, hq⟩, q⟩
  · obtain ⟨its, rv, p, hz⟩ := I1.list hq
    refine wpAny_pyIter_list p.isList ?_
    refine ⟨s1.heap.objs.size, [s1.heap.objs.size], _, _, H1, rfl, I1.kept (t' := s1.toks) fun b o e => Heap.get?_push_of_some _ e, turn_list a _, ⟨_, Heap.get?_push_size _ rfl, rfl, rfl⟩, fun b hb => ?_, q⟩
    have e : b = s1.heap.objs.size := by simpa using hb
    subst e
    exact I1.fpOk (Nat.le_refl _) (I1.hok.fresh (Nat.le_refl _))
  · obtain ⟨its, rv, p, hz⟩ := I1.tuple hq
    refine wpAny_pyIter_tuple (show s1.heap.IsTuple a its.toArray from p) ?_
    refine ⟨s1.heap.objs.size, [s1.heap.objs.size], _, _, H1, rfl, I1.kept (t' := s1.toks) fun b o e => Heap.get?_push_of_some _ e, turn_tuple a _, ⟨_, Heap.get?_push_size _ rfl, rfl, rfl⟩, fun b hb => ?_, q⟩
    have e : b = s1.heap.objs.size := by simpa using hb
    subst e
    exact I1.fpOk (Nat.le_refl _) (I1.hok.fresh (Nat.le_refl _))
/-- a, b, .. = a list or a tuple -/
def gSq (K : PySem.W.Frag) (n : Nat) (t : TGs) : TG := gOr (gTup K n t) (gUnl K n t)
theorem pg_sq {pos : Pos} {es : List Expr} {k : Nat} {t : TGs} {n : Nat} (hc : X.calm = true) (h : PGs X es t)
    (hn : (assignEach es X.env).length = n := by rfl) (hst : (assignEach es X.env).findIdx? (·.1) = none := by rfl) : PG X (.Tuple es k pos) (gSq X.K n t) :=
  pg_or (pg_tup hc h hn hst) (pg_unl hc h hn hst)
end
/-- what a for loop asks of its walk -/
def ForK (g : TG) (tb : TS) (D : Ends) (σ : L2.St) : It → Hp → Prop := fun J H1 => ∃ W : Nat → Nat → L2.St → Hp → Prop, (∃ m, W 0 m σ H1) ∧ ∀ i m σ H, W i m σ H →
  (J.stop i H ∧ D.nx σ H) ∨ (J.go i H ∧ ∃ N : L2.St → Hp → Prop, (∀ σ' H', N σ' H' → ∃ m', m' < m ∧ W (i + 1) m' σ' H') ∧ ∀ x H', J.yld i H x H' → g x σ H' fun σ2 H2 => tb { D with nx := N, ct := N, bk := D.nx } σ2 H2)
theorem w_for {wi : TI} {g : TG} {tb : TS} {n : L2.St → Hp → Prop} {r : VK} {b c : L2.St → Hp → Prop} {σ : L2.St} {H : Hp} (h : wi σ H (ForK g tb ⟨n, r, b, c⟩ σ)) : tFor wi g tb ⟨n, r, b, c⟩ σ H := h
theorem w_iseq {K : PySem.W.Frag} {tl : TE} {σ : L2.St} {H : Hp} {R : It → Hp → Prop} (h : tl σ H (rSeqIt K R)) : iSeq K tl σ H R := h
section
variable {K : PySem.W.Frag} {a : Addr} {xs : List V} {g : TG} {tb : TS} {n : L2.St → Hp → Prop} {r : VK} {b c : L2.St → Hp → Prop} {σ : L2.St} {H : Hp}
/-- a for over a list or a tuple that stays -/
theorem f_seq (h : Sq K H a xs) (Pv : Nat → L2.St → Hp → Prop) (h0 : Pv 0 σ H) (hl : ∀ i σ' H', Pv i σ' H' → Stays K a xs H H')
    (hs : ∀ i x σ' H', xs[i]? = some x → Pv i σ' H' → g x σ' H' fun σ2 H2 => tb ⟨Pv (i + 1), r, n, Pv (i + 1)⟩ σ2 H2) (hd : ∀ σ' H', Pv xs.length σ' H' → n σ' H') :
    rSeqIt K (ForK g tb ⟨n, r, b, c⟩ σ) (.ref a) H := by
  refine ⟨a, rfl, ?_⟩
  rcases h with h | h
  · exact .inl ⟨⟨xs, h⟩, for_list (D := ⟨n, r, b, c⟩) Pv h0 (fun i σ' H' _ p => (hl i σ' H' p).1 h) hs hd⟩
  · exact .inr ⟨⟨xs, h⟩, for_tup (D := ⟨n, r, b, c⟩) Pv h0 (fun i σ' H' _ p => (hl i σ' H' p).2 h) hs hd⟩
theorem f_tup (h : SqT K H a xs) (Pv : Nat → L2.St → Hp → Prop) (h0 : Pv 0 σ H) (hl : ∀ i σ' H', Pv i σ' H' → SqT K H' a xs)
    (hs : ∀ i x σ' H', xs[i]? = some x → Pv i σ' H' → g x σ' H' fun σ2 H2 => tb ⟨Pv (i + 1), r, n, Pv (i + 1)⟩ σ2 H2) (hd : ∀ σ' H', Pv xs.length σ' H' → n σ' H') :
    rSeqIt K (ForK g tb ⟨n, r, b, c⟩ σ) (.ref a) H := ⟨a, rfl, .inr ⟨⟨xs, h⟩, for_tup (D := ⟨n, r, b, c⟩) Pv h0 (fun i σ' H' _ p => hl i σ' H' p) hs hd⟩⟩
theorem f_lst (h : SqL K H a xs) (Pv : Nat → L2.St → Hp → Prop) (h0 : Pv 0 σ H) (hl : ∀ i σ' H', Pv i σ' H' → SqL K H' a xs)
    (hs : ∀ i x σ' H', xs[i]? = some x → Pv i σ' H' → g x σ' H' fun σ2 H2 => tb ⟨Pv (i + 1), r, n, Pv (i + 1)⟩ σ2 H2) (hd : ∀ σ' H', Pv xs.length σ' H' → n σ' H') :
    rSeqIt K (ForK g tb ⟨n, r, b, c⟩ σ) (.ref a) H := ⟨a, rfl, .inl ⟨⟨xs, h⟩, for_list (D := ⟨n, r, b, c⟩) Pv h0 (fun i σ' H' _ p => hl i σ' H' p) hs hd⟩⟩
/-- what is walked stands in H0; all that H0 knows stays -/
theorem f_seq0 {H0 : Hp} (h : Sq K H0 a xs) (Pv : Nat → L2.St → Hp → Prop) (p0 : Pv 0 σ H) (hl : ∀ i σ' H', Pv i σ' H' → Same H0 H')
    (hs : ∀ i x σ' H', xs[i]? = some x → Pv i σ' H' → g x σ' H' fun σ2 H2 => tb ⟨Pv (i + 1), r, n, Pv (i + 1)⟩ σ2 H2) (hd : ∀ σ' H', Pv xs.length σ' H' → n σ' H') :
    rSeqIt K (ForK g tb ⟨n, r, b, c⟩ σ) (.ref a) H := by
  rcases h with h | h
  · exact f_lst (sql_same (hl _ _ _ p0) h) Pv p0 (fun i σ' H' p => sql_same (hl _ _ _ p) h) hs hd
  · exact f_tup (sqt_same (hl _ _ _ p0) h) Pv p0 (fun i σ' H' p => sqt_same (hl _ _ _ p) h) hs hd
/-- a for over range(j) -/
def rRng1 (R : It → Hp → Prop) : List V → Hp → Prop := fun vs H1 => ∃ j : Int, vs = [.int j] ∧ -(2 ^ 62) ≤ j ∧ j < 2 ^ 62 ∧ R (Itr 0 j.toNat) H1
theorem w_irng1 {ta : TA} {R : It → Hp → Prop} (h : ta σ H (rRng1 R)) : iRng1 ta σ H R := h
theorem f_rng {j : Int} (hj : -(2 ^ 62) ≤ j ∧ j < 2 ^ 62) (Pv : Nat → L2.St → Hp → Prop) (h0 : Pv 0 σ H)
    (hs : ∀ (i : Nat) σ' H', (i : Int) < j → Pv i σ' H' → g (.int (i : Int)) σ' H' fun σ2 H2 => tb ⟨Pv (i + 1), r, n, Pv (i + 1)⟩ σ2 H2) (hd : ∀ σ' H', Pv j.toNat σ' H' → n σ' H') :
    rRng1 (ForK g tb ⟨n, r, b, c⟩ σ) [.int j] H := by
  refine ⟨j, rfl, hj.1, hj.2, for_range (D := ⟨n, r, b, c⟩) Pv h0 (fun i σ' H' hi p => ?_) hd⟩
  rw [show (0 : Int) + (i : Int) = (i : Int) by omega]
  exact hs i σ' H' (by omega) p
end
/-! #### comprehensions -/
def LcK (g : TG) (tt : TT) (te : TE) (vs : List Nat) (σ : L2.St) (Q : VK) : It → Hp → Prop := fun J H1 => ∀ D, H1 D = none → ∃ W : Nat → Nat → Hp → Prop, (∃ m, W 0 m (upd H1 D (.lst []))) ∧ ∀ i m H, W i m H →
  (J.stop i H ∧ Q (.ref D) H) ∨ (J.go i H ∧ ∃ Nx : Hp → Prop, (∀ H', Nx H' → ∃ m', m' < m ∧ W (i + 1) m' H') ∧ ∀ x H', J.yld i H x H' → g x (wipe σ vs) H' fun σ2 H2 => wipe σ2 vs = wipe σ vs ∧ tt σ2 H2 fun b H3 =>
    if b = true then te σ2 H3 fun y H4 => ∃ acc, H4 D = some (.lst acc) ∧ acc.length < sizeLine ∧ Nx (upd H4 D (.lst (acc ++ [y]))) else Nx H3)
theorem w_lc {wi : TI} {g : TG} {tt : TT} {te : TE} {vs : List Nat} {σ : L2.St} {H : Hp} {Q : VK} (h : wi σ H (LcK g tt te vs σ Q)) : tLc wi g tt te vs σ H Q := h
section
variable {K : PySem.W.Frag} {a : Addr} {xs : List V} {g : TG} {tt : TT} {te : TE} {vs : List Nat} {σ : L2.St} {H : Hp} {Q : VK}
/-- the element is kept: it goes behind the others -/
def Kept (D : Addr) (Nx : Hp → Prop) : VK := fun y H4 => ∃ acc, H4 D = some (.lst acc) ∧ acc.length < sizeLine ∧ Nx (upd H4 D (.lst (acc ++ [y])))
/-- a comprehension over a list or a tuple: Pv says what the new list at D holds behind i turns -/
theorem l_seq (h : Sq K H a xs) (Pv : Addr → Nat → Hp → Prop) (h0 : ∀ D, H D = none → Pv D 0 (upd H D (.lst []))) (hl : ∀ D i H', H D = none → Pv D i H' → Stays K a xs H H')
    (hs : ∀ D i x H', H D = none → xs[i]? = some x → Pv D i H' → g x (wipe σ vs) H' fun σ2 H2 => wipe σ2 vs = wipe σ vs ∧ tt σ2 H2 fun b H3 => if b = true then te σ2 H3 (Kept D (Pv D (i + 1))) else Pv D (i + 1) H3)
    (hd : ∀ D H', H D = none → Pv D xs.length H' → Q (.ref D) H') : rSeqIt K (LcK g tt te vs σ Q) (.ref a) H := by
  refine ⟨a, rfl, ?_⟩
  rcases h with h | h
  · exact .inl ⟨⟨xs, h⟩, fun D nD => lc_list (Pv D) (h0 D nD) (fun i H' _ p => (hl D i H' nD p).1 h) (fun i x H' hx p => hs D i x H' nD hx p) fun H' p => hd D H' nD p⟩
  · exact .inr ⟨⟨xs, h⟩, fun D nD => lc_tup (Pv D) (h0 D nD) (fun i H' _ p => (hl D i H' nD p).2 h) (fun i x H' hx p => hs D i x H' nD hx p) fun H' p => hd D H' nD p⟩
theorem l_seq0 {H0 : Hp} (h : Sq K H0 a xs) (s0 : Same H0 H) (Pv : Addr → Nat → Hp → Prop) (h0 : ∀ D, H D = none → Pv D 0 (upd H D (.lst []))) (hl : ∀ D i H', H D = none → Pv D i H' → Same H0 H')
    (hs : ∀ D i x H', H D = none → xs[i]? = some x → Pv D i H' → g x (wipe σ vs) H' fun σ2 H2 => wipe σ2 vs = wipe σ vs ∧ tt σ2 H2 fun b H3 => if b = true then te σ2 H3 (Kept D (Pv D (i + 1))) else Pv D (i + 1) H3)
    (hd : ∀ D H', H D = none → Pv D xs.length H' → Q (.ref D) H') : rSeqIt K (LcK g tt te vs σ Q) (.ref a) H := by
  refine ⟨a, rfl, ?_⟩
  rcases h with h | h
  · exact .inl ⟨⟨xs, sql_same s0 h⟩, fun D nD => lc_list (Pv D) (h0 D nD) (fun i H' _ p => sql_same (hl D i H' nD p) h) (fun i x H' hx p => hs D i x H' nD hx p) fun H' p => hd D H' nD p⟩
  · exact .inr ⟨⟨xs, sqt_same s0 h⟩, fun D nD => lc_tup (Pv D) (h0 D nD) (fun i H' _ p => sqt_same (hl D i H' nD p) h) (fun i x H' hx p => hs D i x H' nD hx p) fun H' p => hd D H' nD p⟩
theorem l_rng {j : Int} (hj : -(2 ^ 62) ≤ j ∧ j < 2 ^ 62) (Pv : Addr → Nat → Hp → Prop) (h0 : ∀ D, H D = none → Pv D 0 (upd H D (.lst [])))
    (hs : ∀ D (i : Nat) H', H D = none → (i : Int) < j → Pv D i H' → g (.int (i : Int)) (wipe σ vs) H' fun σ2 H2 => wipe σ2 vs = wipe σ vs ∧ tt σ2 H2 fun b H3 => if b = true then te σ2 H3 (Kept D (Pv D (i + 1))) else Pv D (i + 1) H3)
    (hd : ∀ D H', H D = none → Pv D j.toNat H' → Q (.ref D) H') : rRng1 (LcK g tt te vs σ Q) [.int j] H := by
  refine ⟨j, rfl, hj.1, hj.2, fun D nD => lc_range (Pv D) (h0 D nD) (fun i H' hi p => ?_) fun H' p => hd D H' nD p⟩
  rw [show (0 : Int) + (i : Int) = (i : Int) by omega]
  exact hs D i H' nD (by omega) p
end
/-! #### dict comprehensions -/
def DcK (g : TG) (tt : TT) (tk tv : TE) (vs : List Nat) (σ : L2.St) (Q : VK) : It → Hp → Prop := fun J H1 => ∀ D, H1 D = none → ∃ W : Nat → Nat → Hp → Prop, (∃ m, W 0 m (upd H1 D (.dK []))) ∧ ∀ i m H, W i m H →
  (J.stop i H ∧ Q (.ref D) H) ∨ (J.go i H ∧ ∃ Nx : Hp → Prop, (∀ H', Nx H' → ∃ m', m' < m ∧ W (i + 1) m' H') ∧ ∀ x H', J.yld i H x H' → g x (wipe σ vs) H' fun σ2 H2 => wipe σ2 vs = wipe σ vs ∧ tt σ2 H2 fun b H3 =>
    if b = true then tk σ2 H3 fun y H4 => tv σ2 H4 fun z H5 => ∃ kvs k, y = kV k ∧ H5 D = some (.dK kvs) ∧ kvs.length < sizeLine ∧ Nx (upd H5 D (.dK (putK kvs k z))) else Nx H3)
theorem w_dc {wi : TI} {g : TG} {tt : TT} {tk tv : TE} {vs : List Nat} {σ : L2.St} {H : Hp} {Q : VK} (h : wi σ H (DcK g tt tk tv vs σ Q)) : tDc wi g tt tk tv vs σ H Q := h
def KeptD (D : Addr) (Nx : Hp → Prop) (y : V) : VK := fun z H5 => ∃ kvs k, y = kV k ∧ H5 D = some (.dK kvs) ∧ kvs.length < sizeLine ∧ Nx (upd H5 D (.dK (putK kvs k z)))
theorem d_seq {K : PySem.W.Frag} {a : Addr} {xs : List V} {g : TG} {tt : TT} {tk tv : TE} {vs : List Nat} {σ : L2.St} {H : Hp} {Q : VK} (h : Sq K H a xs) (Pv : Addr → Nat → Hp → Prop) (h0 : ∀ D, H D = none → Pv D 0 (upd H D (.dK []))) (hl : ∀ D i H', H D = none → Pv D i H' → Stays K a xs H H')
    (hs : ∀ D i x H', H D = none → xs[i]? = some x → Pv D i H' → g x (wipe σ vs) H' fun σ2 H2 => wipe σ2 vs = wipe σ vs ∧ tt σ2 H2 fun b H3 => if b = true then tk σ2 H3 (fun y H4 => tv σ2 H4 (KeptD D (Pv D (i + 1)) y)) else Pv D (i + 1) H3)
    (hd : ∀ D H', H D = none → Pv D xs.length H' → Q (.ref D) H') : rSeqIt K (DcK g tt tk tv vs σ Q) (.ref a) H := by
  refine ⟨a, rfl, ?_⟩
  rcases h with h | h
  · refine .inl ⟨⟨xs, h⟩, fun D nD => ⟨fun i m H' => m = xs.length - i ∧ i ≤ xs.length ∧ Pv D i H', ⟨xs.length, by simp, Nat.zero_le _, h0 D nD⟩, ?_⟩⟩
    rintro i m H' ⟨rfl, hi, p⟩
    have q := (hl D i H' nD p).1 h
    by_cases hlt : i < xs.length
    · refine .inr ⟨⟨xs, xs[i], q, by simp [hlt]⟩, Pv D (i + 1), fun H' p' => ⟨xs.length - (i + 1), by omega, rfl, hlt, p'⟩, fun x H' y => ?_⟩
      obtain ⟨e, y⟩ := y
      subst e
      exact hs D i x _ nD (y xs q) p
    · have e : i = xs.length := by omega
      subst e
      exact .inl ⟨⟨xs, q, Nat.le_refl _⟩, hd D H' nD p⟩
  · refine .inr ⟨⟨xs, h⟩, fun D nD => ⟨fun i m H' => m = xs.length - i ∧ i ≤ xs.length ∧ Pv D i H', ⟨xs.length, by simp, Nat.zero_le _, h0 D nD⟩, ?_⟩⟩
    rintro i m H' ⟨rfl, hi, p⟩
    have q := (hl D i H' nD p).2 h
    by_cases hlt : i < xs.length
    · refine .inr ⟨⟨xs, xs[i], q, by simp [hlt]⟩, Pv D (i + 1), fun H' p' => ⟨xs.length - (i + 1), by omega, rfl, hlt, p'⟩, fun x H' y => ?_⟩
      obtain ⟨e, y⟩ := y
      subst e
      exact hs D i x _ nD (y xs q) p
    · have e : i = xs.length := by omega
      subst e
      exact .inl ⟨⟨xs, q, Nat.le_refl _⟩, hd D H' nD p⟩
theorem w_disp1 {tk tv : TE} {σ : L2.St} {H : Hp} {Q : VK} (h : ∀ p H', H p = none → Same H H' → H' p = some (.dK []) → tk σ H' (fun x H2 => tv σ H2 fun y H3 => H3 p = some (.dK []) ∧ ∃ k : Key, x = kV k ∧ Q (.ref p) (upd H3 p (.dK [(k, y)])))) : tDisp ((tk, tv) :: []) σ H Q := fun p np => by
  have z := h p _ np (same_new np) upd_same
  have mono : ∀ (x y : V) (H3 : Hp), (H3 p = some (.dK []) ∧ ∃ k : Key, x = kV k ∧ Q (.ref p) (upd H3 p (.dK [(k, y)]))) = (H3 p = some (.dK []) ∧ ∃ kvs : List (Key × V), [(x, y)] = kvs.map (fun kv => (kV kv.1, kv.2)) ∧ kvs.length ≤ 15 ∧ Q (.ref p) (upd H3 p (.dK (mergeK [] kvs)))) := fun x y H3 => by
    refine propext ⟨fun ⟨e, k, ek, q⟩ => ⟨e, [(k, y)], by rw [ek]; rfl, by simp, q⟩, fun ⟨e, kvs, ek, _, q⟩ => ?_⟩
    cases kvs with
    | nil => cases ek
    | cons u r =>
      cases r with
      | cons _ _ => cases ek
      | nil =>
        injection ek with e1 _
        injection e1 with e2 e3
        refine ⟨e, u.1, e2, ?_⟩
        rw [e3]
        exact q
  show tk σ _ fun x H1 => tv σ H1 fun y H2 => (H2 p = some (.dK []) ∧ ∃ kvs : List (Key × V), [(x, y)] = kvs.map (fun kv => (kV kv.1, kv.2)) ∧ kvs.length ≤ 15 ∧ Q (.ref p) (upd H2 p (.dK (mergeK [] kvs))))
  simp only [← mono]
  exact z
/-! #### one lemma a reading -/
section
variable {K : PySem.W.Frag} {σ : L2.St} {H : Hp} {Q : VK} {ta tb tc : TE} {v w : V} {i j : Int}
theorem w_var {k : Nat} (h : σ[k]? = some (some v)) (q : Q v H) : tVar k σ H Q := ⟨v, h, q⟩
theorem w_c (q : Q v H) : tC v σ H Q := q
theorem w_op {r : R2} (h : ta σ H (fun x H1 => tb σ H1 fun y H2 => r x y H2 Q)) : tOp r ta tb σ H Q := h
theorem w_un {r : V → Hp → VK → Prop} (h : ta σ H (fun x H1 => r x H1 Q)) : tUn r ta σ H Q := h
abbrev rAddI : R2 := rI0 fun i j => .int (i + j)
abbrev rSubI : R2 := rI0 fun i j => .int (i - j)
abbrev rMulI : R2 := rI CMul fun i j => .int (i * j)
abbrev rDivI : R2 := rI CDivW fun i j => .int (i / j)
abbrev rModI : R2 := rI (fun _ j => 0 < j) fun i j => .int (i % j)
abbrev rPowI : R2 := rI CPow fun i j => .int (i ^ j.toNat)
abbrev rLtI : R2 := rI0 fun i j => .bl (decide (i < j))
abbrev rLeI : R2 := rI0 fun i j => .bl (decide (i ≤ j))
abbrev rGtI : R2 := rI0 fun i j => .bl (decide (j < i))
abbrev rGeI : R2 := rI0 fun i j => .bl (decide (j ≤ i))
abbrev rNegI : V → Hp → VK → Prop := rU fun i => .int (-i)
theorem w_rI0 {g : Int → Int → V} (q : Q (g i j) H) : rI0 g (.int i) (.int j) H Q := ⟨i, j, rfl, rfl, q⟩
theorem w_rI {C : Int → Int → Prop} {g : Int → Int → V} (c : C i j) (q : Q (g i j) H) : rI C g (.int i) (.int j) H Q := ⟨i, j, rfl, rfl, c, q⟩
theorem w_rU {g : Int → V} (q : Q (g i) H) : rU g (.int i) H Q := ⟨i, rfl, q⟩
theorem w_rEqI (q : Q (.bl (decide (i = j))) H) : rEq (.int i) (.int j) H Q := by
  refine ⟨rfl, ?_⟩
  have e : decide (V.int i = V.int j) = decide (i = j) := by
    by_cases z : i = j
    · subst z
      rw [decide_eq_true rfl, decide_eq_true rfl]
    · rw [decide_eq_false z, decide_eq_false fun q => z (V.int.inj q)]
  rw [e]
  exact q
theorem w_rNeI (q : Q (.bl (!decide (i = j))) H) : rNe (.int i) (.int j) H Q := by
  refine ⟨rfl, ?_⟩
  have e : decide (V.int i = V.int j) = decide (i = j) := by
    by_cases z : i = j
    · subst z
      rw [decide_eq_true rfl, decide_eq_true rfl]
    · rw [decide_eq_false z, decide_eq_false fun q => z (V.int.inj q)]
  rw [e]
  exact q
abbrev rIsN : R2 := fun x y H Q => y = .non ∧ Q (.bl (decide (x = .non))) H
abbrev rNotN : R2 := fun x y H Q => y = .non ∧ Q (.bl (!decide (x = .non))) H
theorem w_isN_int (q : Q (.bl false) H) : rIsN (.int i) .non H Q := ⟨rfl, q⟩
theorem w_isN_non (q : Q (.bl true) H) : rIsN .non .non H Q := ⟨rfl, q⟩
theorem w_notN_int (q : Q (.bl true) H) : rNotN (.int i) .non H Q := ⟨rfl, q⟩
theorem w_notN_non (q : Q (.bl false) H) : rNotN .non .non H Q := ⟨rfl, q⟩
def optV : Option Int → V
  | none => .non
  | some k => .int k
theorem w_isN_opt {o : Option Int} (q : Q (.bl o.isNone) H) : rIsN (optV o) .non H Q := ⟨rfl, by cases o <;> exact q⟩
theorem w_notN_opt {o : Option Int} (q : Q (.bl o.isSome) H) : rNotN (optV o) .non H Q := ⟨rfl, by cases o <;> exact q⟩
theorem w_fld {f : Str} (h : ta σ H (fun x H1 => ∃ a C dx fs v, x = .ref a ∧ H1 a = some (.ins C dx fs) ∧ Cls K C ∧ NoAttr K C f ∧ fs.lookup f = some v ∧ Q v H1)) : tFld K ta f σ H Q := h
/-- a new list, a new tuple -/
def rNewL (xs : List V) (H : Hp) (Q : VK) : Prop := xs.length ≤ sizeLine ∧ ∀ p, H p = none → Q (.ref p) (upd H p (.lst xs))
def rNewT (xs : List V) (H : Hp) (Q : VK) : Prop := xs.length ≤ sizeLine ∧ ∀ p, H p = none → Q (.ref p) (upd H p (.tup xs))
theorem w_lst {t : TA} (h : t σ H (fun xs H1 => rNewL xs H1 Q)) : tLst t σ H Q := h
theorem w_tup {t : TA} (h : t σ H (fun xs H1 => rNewT xs H1 Q)) : tTup t σ H Q := h
theorem newL {xs : List V} (hl : xs.length ≤ 1000000) (h : ∀ p H', H p = none → Same H H' → H' p = some (.lst xs) → Q (.ref p) H') : rNewL xs H Q :=
  ⟨Nat.le_trans hl (by decide), fun p np => h p _ np (same_new np) upd_same⟩
theorem newT {xs : List V} (hl : xs.length ≤ 1000000) (h : ∀ p H', H p = none → Same H H' → H' p = some (.tup xs) → Q (.ref p) H') : rNewT xs H Q :=
  ⟨Nat.le_trans hl (by decide), fun p np => h p _ np (same_new np) upd_same⟩
theorem w_nil {Q : List V → Hp → Prop} (q : Q [] H) : tNil σ H Q := q
theorem w_cons {t : TA} {Q : List V → Hp → Prop} (h : ta σ H (fun x H1 => t σ H1 fun xs H2 => Q (x :: xs) H2)) : tCons ta t σ H Q := h
theorem w_call {sp : Sp} {dvs : List V} {E : XK} {t : TA} (h : t σ H (fun vs H1 => sp (vs ++ dvs) H1 Q E)) : tCall sp dvs E t σ H Q := h
theorem w_cb {r : List V → Hp → VK → Prop} {t : TA} (h : t σ H (fun vs H1 => r vs H1 Q)) : tCB r t σ H Q := h
theorem w_make {C : Addr} {sp : Sp} {dvs : List V} {E : XK} {t : TA} (h : t σ H (fun vs H1 => ∀ x dx, H1 x = none → H1 dx = none → dx ≠ x → sp (.ref x :: (vs ++ dvs)) (upd (upd H1 dx (.own x)) x (.ins C dx [])) (fun v H2 => v = .non ∧ Q (.ref x) H2) E)) : tMake C sp dvs E t σ H Q := h
theorem w_bm {T : String} {r : V → List V → Hp → VK → Prop} {t : TA} (h : ta σ H (fun x H1 => tyV K T x H1 ∧ t σ H1 fun xs H2 => r x xs H2 Q)) : tBM K T r ta t σ H Q := h
theorem w_bm0 {T : String} {r : V → List V → Hp → VK → Prop} (h : ta σ H (fun x H1 => tyV K T x H1 ∧ r x [] H1 Q)) : tBM0 K T r ta σ H Q := h
/-- xs[i] of a list or a tuple -/
theorem w_ix {a : Addr} {xs : List V} (h : Sq K H a xs) (e : atI xs i = some v) (q : Q v H) : rIx K (.ref a) (.int i) H Q := by
  rcases h with h | h
  · exact .inl ⟨a, xs, i, v, rfl, rfl, h, e, q⟩
  · exact .inr (.inl ⟨a, xs, i, v, rfl, rfl, h, e, q⟩)
theorem w_ixn {a : Addr} {xs : List V} {k : Nat} (h : Sq K H a xs) (e : xs[k]? = some v) (q : Q v H) (ei : i = (k : Int) := by first | rfl | omega) : rIx K (.ref a) (.int i) H Q := by
  subst ei
  exact w_ix h (atI_nat e) q
/-- len -/
abbrev rLenQ (K : PySem.W.Frag) : List V → Hp → VK → Prop := fun xs H Q => ∃ p ys, xs = [.ref p] ∧ (SqL K H p ys ∨ SqT K H p ys) ∧ Q (.int ys.length) H
theorem w_len {a : Addr} {xs : List V} (h : Sq K H a xs) (q : Q (.int (xs.length : Int)) H) : rLenQ K [.ref a] H Q := ⟨a, xs, rfl, h, q⟩
abbrev rIntQ : List V → Hp → VK → Prop := fun xs H Q => (∃ i, xs = [.int i] ∧ Q (.int i) H) ∨ ∃ k, xs = [.bl k] ∧ Q (.int (if k then 1 else 0)) H
theorem w_int_i (q : Q (.int i) H) : rIntQ [.int i] H Q := .inl ⟨i, rfl, q⟩
theorem w_int_b {k : Bool} (q : Q (.int (if k = true then 1 else 0)) H) : rIntQ [.bl k] H Q := .inr ⟨k, rfl, q⟩
abbrev rTupQ (K : PySem.W.Frag) : List V → Hp → VK → Prop := fun xs H Q => ∃ p ys, xs = [.ref p] ∧ ((SqL K H p ys ∧ ∀ l, H l = none → Q (.ref l) (upd H l (.tup ys))) ∨ (SqT K H p ys ∧ Q (.ref p) H))
/-- tuple(xs): some tuple of the same things, new or the very one -/
theorem w_tuple {a : Addr} {xs : List V} (h : Sq K H a xs) (k : ∀ p H', Same H H' → SqT K H' p xs → Q (.ref p) H') : rTupQ K [.ref a] H Q := by
  refine ⟨a, xs, rfl, ?_⟩
  rcases h with h | h
  · exact .inl ⟨h, fun l nl => k l _ (same_new nl) (.of upd_same)⟩
  · exact .inr ⟨h, k a H (Same.refl H) h⟩
abbrev rLstQ (K : PySem.W.Frag) : List V → Hp → VK → Prop := fun xs H Q => ∃ p ys, xs = [.ref p] ∧ (SqL K H p ys ∨ SqT K H p ys) ∧ ∀ l, H l = none → Q (.ref l) (upd H l (.lst ys))
theorem w_list {a : Addr} {xs : List V} (h : Sq K H a xs) (k : ∀ p H', H p = none → Same H H' → H' p = some (.lst xs) → Q (.ref p) H') : rLstQ K [.ref a] H Q :=
  ⟨a, xs, rfl, h, fun l nl => k l _ nl (same_new nl) upd_same⟩
abbrev rMaxQ : List V → Hp → VK → Prop := fun xs H Q => ∃ i j, xs = [.int i, .int j] ∧ Q (.int (if j > i then j else i)) H
abbrev rMinQ : List V → Hp → VK → Prop := fun xs H Q => ∃ i j, xs = [.int i, .int j] ∧ Q (.int (if j < i then j else i)) H
theorem w_max2 (q : Q (.int (if j > i then j else i)) H) : rMaxQ [.int i, .int j] H Q := ⟨i, j, rfl, q⟩
theorem w_min2 (q : Q (.int (if j < i then j else i)) H) : rMinQ [.int i, .int j] H Q := ⟨i, j, rfl, q⟩
theorem w_sum {a : Addr} {ns : List Int} (h : SqL K H a (ns.map V.int)) (q : Q (.int ns.sum) H) : rSum K [.ref a] H Q := ⟨a, ns, rfl, h, q⟩
/-- methods of lists -/
theorem tyL {a : Addr} {xs : List V} (h : H a = some (.lst xs)) : tyV K "list" (.ref a) H := .inl ⟨rfl, xs, .of h⟩
theorem w_append {a : Addr} {xs : List V} (h : H a = some (.lst xs)) (hl : xs.length < 10000000) (q : Q .non (upd H a (.lst (xs ++ [v])))) : rAppend (.ref a) [v] H Q := ⟨a, xs, v, rfl, rfl, h, Nat.lt_of_lt_of_le hl (by decide), q⟩
abbrev rInsertQ : V → List V → Hp → VK → Prop := fun x vs H Q => ∃ (l : Addr) (xs : List V) (i : Int) (y : V), x = .ref l ∧ vs = [.int i, y] ∧ H l = some (.lst xs) ∧ xs.length < sizeLine ∧ 0 ≤ i ∧ i < 2 ^ 63 ∧
    Q .non (upd H l (.lst (xs.take i.toNat ++ [y] ++ xs.drop i.toNat)))
theorem w_insert {a : Addr} {xs : List V} (h : H a = some (.lst xs)) (hl : xs.length < 10000000) (h0 : 0 ≤ i) (h1 : i < 2 ^ 63) (q : Q .non (upd H a (.lst (xs.take i.toNat ++ [v] ++ xs.drop i.toNat)))) : rInsertQ (.ref a) [.int i, v] H Q :=
  ⟨a, xs, i, v, rfl, rfl, h, Nat.lt_of_lt_of_le hl (by decide), h0, h1, q⟩
/-- + of lists, * of a list -/
theorem w_cat {a c : Addr} {xs ys : List V} (h : H a = some (.lst xs)) (h' : H c = some (.lst ys)) (hl : xs.length + ys.length ≤ 1000000) (k : ∀ p H', H p = none → Same H H' → H' p = some (.lst (xs ++ ys)) → Q (.ref p) H') : rCat (.ref a) (.ref c) H Q :=
  ⟨a, c, xs, ys, rfl, rfl, h, h', Nat.le_trans hl (by decide), fun p np => k p _ np (same_new np) upd_same⟩
theorem w_rep {a : Addr} {xs : List V} (h : H a = some (.lst xs)) (h0 : 0 ≤ i) (h1 : i ≤ 100000) (hl : xs.length * i.toNat ≤ 1000000) (k : ∀ p H', H p = none → Same H H' → H' p = some (.lst (List.replicate i.toNat xs).flatten) → Q (.ref p) H') : rRep (.ref a) (.int i) H Q :=
  ⟨a, i, xs, rfl, rfl, h, by omega, by omega, Nat.le_trans hl (by decide), fun p np => k p _ np (same_new np) upd_same⟩
/-- slices -/
theorem w_sl {r : V → Option Int → Option Int → Hp → VK → Prop} {tl th : TO} (h : ta σ H fun x H1 => tl σ H1 fun l H2 => th σ H2 fun u H3 => r x l u H3 Q) : tSl r ta tl th σ H Q := h
theorem w_part {Q : Option Int → Hp → Prop} (h : ta σ H fun x H1 => ∃ i, x = .int i ∧ Q (some i) H1) : tPart ta σ H Q := h
theorem w_partI {A : Option Int → Prop} (h : A (some i)) : ∃ j, V.int i = .int j ∧ A (some j) := ⟨i, rfl, h⟩
theorem w_nopart {Q : Option Int → Hp → Prop} (h : Q none H) : tNoPart σ H Q := h
theorem w_slL {a : Addr} {xs : List V} {lo hi : Option Int} (h : SqL K H a xs) (k : ∀ p H', H p = none → Same H H' → H' p = some (.lst (cutV xs lo hi)) → Q (.ref p) H') : rSlL K (.ref a) lo hi H Q :=
  ⟨a, xs, rfl, h, fun p np => k p _ np (same_new np) upd_same⟩
theorem cut_nat (xs : List V) (i j : Nat) : cutV xs (some (i : Int)) (some (j : Int)) = (xs.drop (min i xs.length)).take (min j xs.length - min i xs.length) := by
  unfold cutV
  rw [HT.sIx_nat, HT.sIx_nat]
theorem cut_from (xs : List V) (i : Nat) : cutV xs (some (i : Int)) none = (xs.drop (min i xs.length)).take (xs.length - min i xs.length) := by
  unfold cutV
  rw [HT.sIx_nat, HT.sIx_none]
/-- in a list or a tuple of flat things: some answer -/
theorem w_inS {neg : Bool} {x : V} {a : Addr} {xs : List V} (h : Sq K H a xs) (hx : flatV x = true) (hf : xs.all flatV = true) (q : ∀ b, Q (.bl b) H) : rIn K neg x (.ref a) H Q := ⟨a, xs, rfl, h, hx, hf, q _⟩
/-- if -/
theorem w_if {t : TT} (h : t σ H (fun c H1 => if c = true then ta σ H1 Q else tb σ H1 Q)) : tIf t ta tb σ H Q := h
theorem w_andV (h : ta σ H (fun x H1 => ∃ c, x = .bl c ∧ if c = true then tb σ H1 Q else Q (.bl false) H1)) : tAndV ta tb σ H Q := h
theorem w_orV (h : ta σ H (fun x H1 => ∃ c, x = .bl c ∧ if c = true then Q (.bl true) H1 else tb σ H1 Q)) : tOrV ta tb σ H Q := h
theorem w_notV (h : ta σ H (fun x H1 => ∃ c, x = .bl c ∧ Q (.bl (!c)) H1)) : tNotV ta σ H Q := h
theorem w_bl {c : Bool} {A : Bool → Prop} (h : A c) : ∃ d, V.bl c = .bl d ∧ A d := ⟨c, rfl, h⟩
theorem w_chain {r r' : R2} (h : ta σ H (fun x H1 => tb σ H1 fun y H2 => r x y H2 fun z H3 => ∃ k, z = .bl k ∧ (if k = true then tc σ H3 fun w' H4 => r' y w' H4 Q else Q (.bl false) H3))) : tChain r r' ta tb tc σ H Q := h
end
section
variable {K : PySem.W.Frag} {σ : L2.St} {H : Hp} {ta tb : TE} {t u : TT} {Q : Bool → Hp → Prop}
theorem w_tB (h : ta σ H (fun x H1 => ∃ c, x = .bl c ∧ Q c H1)) : tB ta σ H Q := h
theorem w_tTest (h : ta σ H (fun x H1 => ∃ c, x = .bl c ∧ Q c H1)) : tTest ta σ H Q := h
theorem w_tAnd (h : t σ H (fun c H1 => if c = true then u σ H1 Q else Q false H1)) : tAnd t u σ H Q := h
theorem w_tOr (h : t σ H (fun c H1 => if c = true then Q true H1 else u σ H1 Q)) : tOr t u σ H Q := h
theorem w_tNot (h : t σ H (fun c H1 => Q (!c) H1)) : tNot t σ H Q := h
theorem w_tYes (h : Q true H) : tYes σ H Q := h
end
/-! #### statements -/
section
variable {K : PySem.W.Frag} {σ : L2.St} {H : Hp} {n : L2.St → Hp → Prop} {r : VK} {b c : L2.St → Hp → Prop} {t u : TS} {te : TE} {g : TG} {tc : TT}
theorem w_seq (h : t ⟨u ⟨n, r, b, c⟩, r, b, c⟩ σ H) : tSeq t u ⟨n, r, b, c⟩ σ H := h
theorem w_asg (h : te σ H (fun x H1 => g x σ H1 n)) : tAsg te g ⟨n, r, b, c⟩ σ H := h
theorem w_gname {v : V} {i : Nat} {Q : L2.St → Hp → Prop} (h : Q (σ.set i (some v)) H) : gName i v σ H Q := h
theorem w_drop (h : te σ H (fun _ H1 => n σ H1)) : tDrop te ⟨n, r, b, c⟩ σ H := h
theorem w_ret (h : te σ H r) : tRet te ⟨n, r, b, c⟩ σ H := h
theorem w_retN (h : r .non H) : tRetN ⟨n, r, b, c⟩ σ H := h
theorem w_ifS (h : tc σ H (fun k H1 => if k = true then t ⟨n, r, b, c⟩ σ H1 else u ⟨n, r, b, c⟩ σ H1)) : tIfS tc t u ⟨n, r, b, c⟩ σ H := h
theorem w_next (h : n σ H) : tNext ⟨n, r, b, c⟩ σ H := h
theorem w_break (h : b σ H) : tBreak ⟨n, r, b, c⟩ σ H := h
theorem w_cont (h : c σ H) : tCont ⟨n, r, b, c⟩ σ H := h
theorem w_gsq {k : Nat} {ts : TGs} {a : Addr} {xs : List V} {Q : L2.St → Hp → Prop} (hs : Sq K H a xs) (hl : xs.length = k) (h : ts xs σ H Q) : gSq K k ts (.ref a) σ H Q := by
  rcases hs with hs | hs
  · exact .inr ⟨a, xs, rfl, hs, hl, h⟩
  · exact .inl ⟨a, xs, rfl, hs, hl, h⟩
theorem w_gcons {v : V} {vs : List V} {ts : TGs} {Q : L2.St → Hp → Prop} (h : g v σ H (fun σ' H' => ts vs σ' H' Q)) : gCons g ts (v :: vs) σ H Q := ⟨v, vs, rfl, h⟩
theorem w_gnil {Q : L2.St → Hp → Prop} (h : Q σ H) : gNil [] σ H Q := ⟨rfl, h⟩
theorem w_aug {i : Nat} {ti : TIp} {v : V} (hv : σ[i]? = some (some v)) (h : te σ H (fun y H1 => ti v y H1 fun z H2 => n (σ.set i (some z)) H2)) : tAug i te ti ⟨n, r, b, c⟩ σ H := ⟨v, hv, h⟩
theorem w_dput {td ty tv : TE} (h : tv σ H (fun v H1 => td σ H1 fun x H2 => ty σ H2 fun y H3 => ∃ a H4, x = .ref a ∧ DPut H3 a y v H4 ∧ n σ H4)) : sDPut td ty tv ⟨n, r, b, c⟩ σ H := h
theorem w_sfld {ta tv : TE} {f : Str} (h : tv σ H (fun y H1 => ta σ H1 fun x H2 => ∃ a C dx fs, x = .ref a ∧ H2 a = some (.ins C dx fs) ∧ Cls K C ∧ NoAttr K C f ∧ fs.length < 1000 ∧ n σ (upd H2 a (.ins C dx (putF f y fs))))) : sFld K ta tv f ⟨n, r, b, c⟩ σ H := h
/-- while: a word by a natural number that falls; behind the test: true: some N that leads to a smaller number, and the body reaches it -/
theorem f_while (Pv : Nat → L2.St → Hp → Prop) (m : Nat) (h0 : Pv m σ H)
    (hs : ∀ m σ' H', Pv m σ' H' → tc σ' H' fun k H1 => if k = true then ∃ N : L2.St → Hp → Prop, (∀ σ' H', N σ' H' → ∃ m', m' < m ∧ Pv m' σ' H') ∧ t ⟨N, r, n, N⟩ σ' H1 else n σ' H1) : tWhile tc t ⟨n, r, b, c⟩ σ H :=
  ⟨Pv, ⟨m, h0⟩, hs⟩
end
/-! #### tests whose answer is open -/
theorem itd {p A B : Prop} [Decidable p] (h1 : p → A) (h2 : ¬ p → B) : if decide p = true then A else B := by
  by_cases e : p
  · rw [decide_eq_true e, if_pos rfl]
    exact h1 e
  · rw [decide_eq_false e, if_neg Bool.false_ne_true]
    exact h2 e
theorem itdP {p A B : Prop} [Decidable p] (e : p) (h1 : A) : if decide p = true then A else B := itd (fun _ => h1) fun n => absurd e n
theorem itdN {p A B : Prop} [Decidable p] (e : ¬ p) (h2 : B) : if decide p = true then A else B := itd (fun p => absurd p e) fun _ => h2
theorem itnd {p A B : Prop} [Decidable p] (h1 : ¬ p → A) (h2 : p → B) : if (!decide p) = true then A else B := by
  by_cases e : p
  · rw [decide_eq_true e]
    exact h2 e
  · rw [decide_eq_false e]
    exact h1 e
theorem itb {b : Bool} {A B : Prop} (h1 : b = true → A) (h2 : b = false → B) : if b = true then A else B := by
  cases b with
  | true => exact h1 rfl
  | false => exact h2 rfl
theorem itnb {b : Bool} {A B : Prop} (h1 : b = false → A) (h2 : b = true → B) : if (!b) = true then A else B := by
  cases b with
  | true => exact h2 rfl
  | false => exact h1 rfl
/-! #### defs and classes by name -/
def FnAt (K : PySem.W.Frag) (f : Addr) (fd : FuncData) : Prop := ∃ oc od osl, K.lookup f = some ⟨oc, od, .func fd, osl⟩
theorem fnAt {K : PySem.W.Frag} {x qual : Str} {params : Arguments} {body : List Stmt} {scope : Scope} {dvs : List V} {kws : List (Str × V)} {f : Addr} {fd : FuncData} (F : FunD K x qual params body scope dvs kws f fd) : FnAt K f fd := by
  obtain ⟨oc, od, dV, kV, doc, pm, an, cdv, ct, osl, e, lk, _⟩ := F.ex
  exact ⟨oc, od, osl, lk⟩
theorem FnAt.inj {K : PySem.W.Frag} {f : Addr} {fd fd' : FuncData} (h : FnAt K f fd) (h' : FnAt K f fd') : fd = fd' := by
  obtain ⟨a, b, c, e⟩ := h
  obtain ⟨a', b', c', e'⟩ := h'
  rw [e] at e'
  injection Option.some.inj e' with _ _ z _
  injection z
structure Cal (P : Program) (w : World) (K : PySem.W.Frag) (mg : Str → Option Value) (base : Heap) (CX : CXT) (k : Nat) (x : Str) (ps : List Str) (sp : Sp) : Prop where
  ex : ∃ f fd, mg x = some (.ref f) ∧ PySem.W.keepIn K (.ref f) = true ∧ Binds K fd ps [] ∧ FnOk P w K mg base CX k f fd ps sp ∧ FnAt K f fd
/-- called by keywords alone (names ks): gV puts their values in the parameters' order -/
structure CalK (P : Program) (w : World) (K : PySem.W.Frag) (mg : Str → Option Value) (base : Heap) (CX : CXT) (k : Nat) (x : Str) (ps ks : List Str) (gV : List V → List V) (sp : Sp) : Prop where
  ex : ∃ (f : Addr) (fd : FuncData) (g : List Value → List Value), mg x = some (.ref f) ∧ PySem.W.keepIn K (.ref f) = true ∧ KBn K fd ps 0 ks (fun _ ws => g ws) (fun _ zs => gV zs) ∧ FnOk P w K mg base CX k f fd ps sp
theorem Cal.kw {P : Program} {w : World} {K : PySem.W.Frag} {mg : Str → Option Value} {base : Heap} {CX : CXT} {k : Nat} {x : Str} {ps ks : List Str} {gV : List V → List V} {sp : Sp} {f : Addr} {fd : FuncData} (c : Cal P w K mg base CX k x ps sp) (hf : mg x = some (.ref f)) (ha : FnAt K f fd)
    (g : List Value → List Value) (hb : KBn K fd ps 0 ks (fun _ ws => g ws) (fun _ zs => gV zs)) : CalK P w K mg base CX k x ps ks gV sp := by
  obtain ⟨f', fd', hm, kp, _, F, A⟩ := c.ex
  rw [hm] at hf
  cases hf
  cases A.inj ha
  exact ⟨_, _, g, hm, kp, hb, F⟩
/-- a method -/
structure CalM (P : Program) (w : World) (K : PySem.W.Frag) (mg : Str → Option Value) (base : Heap) (CX : CXT) (k : Nat) (C : Addr) (m : Str) (ps : List Str) (sp : Sp) : Prop where
  cl : Cls K C
  ex : ∃ f fd, Meth K C m f ∧ Binds K fd ps [] ∧ FnOk P w K mg base CX k f fd ps sp
/-- a class's making -/
structure CalI (P : Program) (w : World) (K : PySem.W.Frag) (mg : Str → Option Value) (base : Heap) (CX : CXT) (k : Nat) (x : Str) (C : Addr) (ps : List Str) (sp : Sp) : Prop where
  ex : ∃ f fd, mg x = some (.ref C) ∧ Mk K C f ∧ Binds K fd ps [] ∧ FnOk P w K mg base CX k f fd ps sp
section
variable {X : Cx} {CX : CXT} {k j : Nat} {C : Addr} {ps : List Str} {sp : Sp} {E : XK} {x m : Str} {p pos apos : Pos} {e o : Expr} {es : List Expr} {t : TA} {ta : TE}
theorem pe_cal (c : Cal X.prog X.w X.K X.mg X.base CX k x ps sp) (hr : Room j X.A) (hk : k ≤ j) (hg : Gl X x) (hx : Passes CX X E) (ha : PA X (e :: es) t) (hdb : (x == ("__debug__" : Str)) = false := by decide)
    (he : starEach (e :: es) X.env = (false, eval e X.env) :: starEach es X.env := by rfl) (hpl : (backTo pos (starEach es X.env)).any (·.1) = false := by rfl) : PE X (.Call (.Name x p) (e :: es) [] pos) (tCall sp [] E t) := by
  obtain ⟨f, fd, hm, kp, hb, F, _⟩ := c.ex
  exact pe_call F (hr.mono hk) hg hm kp hb .nil hx ha hdb he hpl
theorem pe_cal0 (c : Cal X.prog X.w X.K X.mg X.base CX k x ps sp) (hr : Room j X.A) (hk : k ≤ j) (hg : Gl X x) (hx : Passes CX X E) (hdb : (x == ("__debug__" : Str)) = false := by decide) : PE X (.Call (.Name x p) [] [] pos) (tCall sp [] E tNil) := by
  obtain ⟨f, fd, hm, kp, hb, F, _⟩ := c.ex
  exact pe_call0 F (hr.mono hk) hg hm kp hb .nil hx hdb
theorem pe_calI (c : CalI X.prog X.w X.K X.mg X.base CX k x C ps sp) (hr : Room j X.A) (hk : k + 1 ≤ j) (hg : Gl X x) (hx : Passes CX X E) (ha : PA X (e :: es) t) (hdb : (x == ("__debug__" : Str)) = false := by decide)
    (he : starEach (e :: es) X.env = (false, eval e X.env) :: starEach es X.env := by rfl) (hpl : (backTo pos (starEach es X.env)).any (·.1) = false := by rfl) : PE X (.Call (.Name x p) (e :: es) [] pos) (tMake C sp [] E t) := by
  obtain ⟨f, fd, hm, M, hb, F⟩ := c.ex
  exact pe_make M F (hr.mono hk) hg hm hb .nil hx ha hdb he hpl
def tMethN (C : Addr) (m : Str) (sp : Sp) (E : XK) (ta : TE) (t : TA) : TE := fun σ H Q => ta σ H fun x H1 => ∃ a dx fs, x = .ref a ∧ H1 a = some (.ins C dx fs) ∧ fs.lookup m = none ∧ t σ H1 fun vs H2 => sp (x :: vs) H2 Q E
theorem pe_calM {pl : Sem Bool} (he : PE X o ta) (c : CalM X.prog X.w X.K X.mg X.base CX k C m ps sp) (hr : Room j X.A) (hk : k ≤ j) (hx : Passes CX X E) (ha : PA X (e :: es) t)
    (hst : starEach (e :: es) X.env = (false, eval e X.env) :: starEach es X.env := by rfl) (hpl : (backTo pos (starEach es X.env)).any (·.1) = false := by rfl)
    (ht : eval (.Call (.Attribute o m apos) (e :: es) [] pos) X.env = (do
      let ov ← eval o X.env
      standAt apos.atName
      let (f, first) ← holding [ov] (getMethod ov m pl)
      callWith pos f first (backTo pos (starEach (e :: es) X.env)) (backToKw pos (keywordEach [] X.env))) := by rfl) : PE X (.Call (.Attribute o m apos) (e :: es) [] pos) (tMeth C m sp [] E ta t) := by
  obtain ⟨f, fd, hm, hb, F⟩ := c.ex
  exact pe_meth he c.cl hm F (hr.mono hk) hb .nil hx ha hst hpl ht
theorem pe_calM0 {pl : Sem Bool} (he : PE X o ta) (c : CalM X.prog X.w X.K X.mg X.base CX k C m ps sp) (hr : Room j X.A) (hk : k ≤ j) (hx : Passes CX X E)
    (ht : eval (.Call (.Attribute o m apos) [] [] pos) X.env = (do
      let ov ← eval o X.env
      standAt apos.atName
      let (f, first) ← holding [ov] (getMethod ov m pl)
      callWith pos f first (backTo pos (starEach [] X.env)) (backToKw pos (keywordEach [] X.env))) := by rfl) : PE X (.Call (.Attribute o m apos) [] [] pos) (tMeth C m sp [] E ta tNil) := by
  obtain ⟨f, fd, hm, hb, F⟩ := c.ex
  exact pe_meth0 he c.cl hm F (hr.mono hk) hb .nil hx ht
end
def tCallKw (sp : Sp) (gV : List V → List V) (m : Nat) (E : XK) (tk : TA) : TE := fun σ H Q => tk σ H fun zs H2 => zs.length = m ∧ sp (gV zs) H2 Q E
theorem pe_calK {X : Cx} {CX : CXT} {k j : Nat} {ps ks : List Str} {gV : List V → List V} {sp : Sp} {E : XK} {x : Str} {p pos : Pos} {kws : List Keyword} {tk : TA} (c : CalK X.prog X.w X.K X.mg X.base CX k x ps ks gV sp) (hr : Room j X.A) (hk : k ≤ j) (hg : Gl X x) (hx : Passes CX X E) (hkw : PK X kws tk)
    (hall : (backToKw pos (keywordEach kws X.env)).all (·.1.isSome) = true := by rfl) (hks : (backToKw pos (keywordEach kws X.env)).filterMap (·.1) = ks := by rfl) (hdb : (x == ("__debug__" : Str)) = false := by decide)
    (hpl : ((backTo pos (starEach [] X.env)).any (·.1) || (backToKw pos (keywordEach kws X.env)).any (·.1.isNone)) = false := by rfl) {m : Nat} (hm0 : ks.length = m := by rfl) : PE X (.Call (.Name x p) [] kws pos) (tCallKw sp gV m E tk) := by
  subst hm0
  obtain ⟨f, fd, g, hm, kp, hb, F⟩ := c.ex
  refine ⟨fun pins s σ H Q I h => ?_⟩
  refine wpAny_Call_Name_kw (ld_glob I hg hm ?_ hdb)
  refine PySem.W.callWith_KW0 (h₀ := X.base) I.ok.mod.kin kp hall ?_ hpl
  refine thn (hkw.run pos pins s σ H _ I h) fun ws s2 ⟨zs, H2, I2, rz, l2, q2⟩ => ⟨I2.kIn, ?_⟩
  rw [hks]
  have r2 := hb.rel (vs := []) (us := []) .nil rz
  refine wpAny_call (codeAny_mono (F.run X.A X.stack s2 H2 ⟨[], ks.zip ws⟩ (g ws) (gV zs) Q E (hr.mono hk) I2.env0 (hb.to s2 [] ws I2.kIn rfl (rz.length.symm.trans l2)) r2 q2) fun r s' hq => ?_)
  cases r with
  | error e => exact hx pins σ H2 s2 e s' I2 hq
  | ok fl =>
    cases fl with
    | ret u => exact I2.after hq
    | next => exact False.elim hq
    | brk => exact False.elim hq
    | cont => exact False.elim hq
theorem w_callKw {sp : Sp} {gV : List V → List V} {m : Nat} {E : XK} {tk : TA} {σ : L2.St} {H : Hp} {Q : VK} (h : tk σ H fun zs H2 => zs.length = m ∧ sp (gV zs) H2 Q E) : tCallKw sp gV m E tk σ H Q := h
theorem w_meth {C : Addr} {m : Str} {sp : Sp} {E : XK} {ta : TE} {t : TA} {σ : L2.St} {H : Hp} {Q : VK} (h : ta σ H fun x H1 => ∃ a dx fs, x = .ref a ∧ H1 a = some (.ins C dx fs) ∧ fs.lookup m = none ∧ t σ H1 fun vs H2 => sp (x :: (vs ++ [])) H2 Q E) : tMeth C m sp [] E ta t σ H Q := h
/-! #### dicts with whole numbers as keys, as functions -/
def IDict (H : Hp) (d : Addr) (f : Int → Option V) (n : Nat) : Prop := ∃ kvs : List (Key × V), H d = some (.dK kvs) ∧ kvs.length ≤ n ∧ ∀ k : Int, valV kvs (Sum.inl k) = f k
theorem IDict.new {H : Hp} {d : Addr} (h : H d = some (.dK [])) : IDict H d (fun _ => none) 0 := ⟨[], h, Nat.le_refl _, fun _ => rfl⟩
theorem IDict.same {H H' : Hp} {d : Addr} {f : Int → Option V} {n : Nat} (s : Same H H') (h : IDict H d f n) : IDict H' d f n := by
  obtain ⟨kvs, e, l, v⟩ := h
  exact ⟨kvs, s _ _ e, l, v⟩
theorem IDict.get {H : Hp} {d : Addr} {f : Int → Option V} {n : Nat} (h : IDict H d f n) (k : Int) : DGet H d (.int k) (f k) := by
  obtain ⟨kvs, e, _, v⟩ := h
  have z := DGet.k (k := Sum.inl k) e
  rw [v k] at z
  exact z
def fput (f : Int → Option V) (k : Int) (v : V) : Int → Option V := fun j => if j = k then some v else f j
theorem put_len (kvs : List (Key × V)) (k : Key) (x : V) : (putK kvs k x).length ≤ kvs.length + 1 := by
  unfold putK
  split
  · rw [List.length_map]
    omega
  · rw [List.length_append]
    exact Nat.le_refl _
theorem IDict.put {H : Hp} {d : Addr} {f : Int → Option V} {n : Nat} (h : IDict H d f n) (hn : n < 10000000) (k : Int) (v : V) : ∃ o, DPut H d (.int k) v (upd H d o) ∧ (∀ H', H' d = some o → IDict H' d (fput f k v) (n + 1)) ∧ ∃ kvs, o = .dK kvs := by
  obtain ⟨kvs, e, l, w⟩ := h
  refine ⟨.dK (putK kvs (Sum.inl k) v), DPut.k (k := Sum.inl k) e (Nat.lt_of_le_of_lt l (Nat.lt_of_lt_of_le hn (by decide))), fun H' e' => ⟨_, e', Nat.le_trans (put_len _ _ _) (by omega), fun j => ?_⟩, _, rfl⟩
  rw [valV_put]
  unfold fput
  by_cases q : j = k
  · subst q
    rw [if_pos rfl, if_pos rfl]
  · rw [if_neg q, if_neg fun z => q (Sum.inl.inj z)]
    exact w j
section
variable {K : PySem.W.Frag} {σ : L2.St} {H : Hp} {Q : VK} {td ty : TE}
theorem w_dget (h : td σ H fun x H1 => ty σ H1 fun y H2 => ∃ a v, x = .ref a ∧ DGet H2 a y (some v) ∧ Q v H2) : tDGet td ty σ H Q := h
theorem w_din (h : ty σ H fun y H1 => td σ H1 fun x H2 => ∃ a o, x = .ref a ∧ DGet H2 a y o ∧ Q (.bl o.isSome) H2) : tDIn ty td σ H Q := h
theorem w_dnotin (h : ty σ H fun y H1 => td σ H1 fun x H2 => ∃ a o, x = .ref a ∧ DGet H2 a y o ∧ Q (.bl (!o.isSome)) H2) : tDNotIn ty td σ H Q := h
theorem w_dnew (h : ∀ p H', H p = none → Same H H' → H' p = some (.dK []) → Q (.ref p) H') : tDNewK σ H Q := fun p np => h p _ np (same_new np) upd_same
end
/-! #### steps: one reading after another, as far as nothing is to be chosen -/
theorem mul_l {i j : Int} (h : -(2 ^ 64) < i ∧ i < 2 ^ 64) : CMul i j := .inl h
theorem mul_r {i j : Int} (h : -(2 ^ 64) < j ∧ j < 2 ^ 64) : CMul i j := .inr h
theorem div_c {i j : Int} (h : 0 < j) (h9 : j.natAbs.log2 < 9000) : CDivW i j := ⟨h, h9⟩
local macro_rules | `(tactic| wtm_at "g_mul") => `(tactic| first | exact mul_l ⟨by omega, by omega⟩ | exact mul_r ⟨by omega, by omega⟩)
local macro_rules | `(tactic| wtm_at "g_div") => `(tactic| exact div_c (by first | decide | omega) (by decide +kernel))
local macro_rules | `(tactic| wtm_at "g_pos") => `(tactic| first | decide | omega)
local macro_rules | `(tactic| wtm_at "g_side") => `(tactic| first | wtm_at "g_mul" | wtm_at "g_div" | (show (0 : Int) < _; wtm_at "g_pos"))
local macro_rules | `(tactic| wtm_at "gs1") => `(tactic| with_reducible first
  | refine w_seq ?_
  | refine w_asg ?_
  | refine w_gname ?_
  | refine w_var (by with_unfolding_all rfl) ?_
  | refine w_c ?_
  | refine w_op ?_
  | refine w_un ?_
  | refine w_rI0 ?_
  | refine w_rEqI ?_
  | refine w_rNeI ?_
  | (refine w_rI ?hc ?_; (case hc => with_unfolding_all wtm_at "g_side"))
  | refine w_rU ?_
  | refine w_nil ?_
  | refine w_cons ?_
  | refine w_call ?_
  | refine w_callKw ?_
  | refine w_cb ?_
  | refine w_drop ?_
  | refine w_ret ?_
  | refine w_retN ?_
  | refine w_ifS ?_
  | refine w_tB ?_
  | refine w_tTest ?_
  | refine w_tAnd ?_
  | refine w_tOr ?_
  | refine w_tNot ?_
  | refine w_tYes ?_
  | refine w_bl ?_
  | refine w_next ?_
  | refine w_break ?_
  | refine w_cont ?_
  | refine w_for ?_
  | refine w_iseq ?_
  | refine w_irng1 ?_
  | refine w_lc ?_
  | refine w_lst ?_
  | refine w_tup ?_
  | refine w_if ?_
  | refine w_andV ?_
  | refine w_orV ?_
  | refine w_notV ?_
  | refine w_chain ?_
  | refine w_int_i ?_
  | refine w_int_b ?_
  | refine w_max2 ?_
  | refine w_min2 ?_
  | refine w_isN_int ?_
  | refine w_isN_non ?_
  | refine w_notN_int ?_
  | refine w_notN_non ?_
  | refine w_isN_opt ?_
  | refine w_notN_opt ?_
  | refine iteT ?_
  | refine iteF ?_
  | refine w_dput ?_
  | refine w_dget ?_
  | refine w_din ?_
  | refine w_dnotin ?_
  | refine w_bm ?_
  | refine w_bm0 ?_
  | refine w_meth ?_
  | refine w_make ?_
  | refine w_fld ?_
  | refine w_gcons ?_
  | refine w_gnil ?_
  | refine w_sl ?_
  | refine w_part ?_
  | refine w_partI ?_
  | refine w_nopart ?_
  | refine w_sfld ?_
  | refine w_dc ?_
  | refine w_aug (by with_unfolding_all rfl) ?_)
local macro_rules | `(tactic| wtm_at "gs") => `(tactic| repeat wtm_at "gs1")
end G
namespace Gr
open PySem PySem.Spec PyProof.Rows L2 G
local macro_rules | `(tactic| wtm_at "g_mul") => `(tactic| first | exact mul_l ⟨by omega, by omega⟩ | exact mul_r ⟨by omega, by omega⟩)
local macro_rules | `(tactic| wtm_at "g_div") => `(tactic| exact div_c (by first | decide | omega) (by decide +kernel))
local macro_rules | `(tactic| wtm_at "g_pos") => `(tactic| first | decide | omega)
local macro_rules | `(tactic| wtm_at "g_side") => `(tactic| first | wtm_at "g_mul" | wtm_at "g_div" | (show (0 : Int) < _; wtm_at "g_pos"))
local macro_rules | `(tactic| wtm_at "gs1") => `(tactic| with_reducible first
  | refine w_seq ?_
  | refine w_asg ?_
  | refine w_gname ?_
  | refine w_var (by with_unfolding_all rfl) ?_
  | refine w_c ?_
  | refine w_op ?_
  | refine w_un ?_
  | refine w_rI0 ?_
  | refine w_rEqI ?_
  | refine w_rNeI ?_
  | (refine w_rI ?hc ?_; (case hc => with_unfolding_all wtm_at "g_side"))
  | refine w_rU ?_
  | refine w_nil ?_
  | refine w_cons ?_
  | refine w_call ?_
  | refine w_callKw ?_
  | refine w_cb ?_
  | refine w_drop ?_
  | refine w_ret ?_
  | refine w_retN ?_
  | refine w_ifS ?_
  | refine w_tB ?_
  | refine w_tTest ?_
  | refine w_tAnd ?_
  | refine w_tOr ?_
  | refine w_tNot ?_
  | refine w_tYes ?_
  | refine w_bl ?_
  | refine w_next ?_
  | refine w_break ?_
  | refine w_cont ?_
  | refine w_for ?_
  | refine w_iseq ?_
  | refine w_irng1 ?_
  | refine w_lc ?_
  | refine w_lst ?_
  | refine w_tup ?_
  | refine w_if ?_
  | refine w_andV ?_
  | refine w_orV ?_
  | refine w_notV ?_
  | refine w_chain ?_
  | refine w_int_i ?_
  | refine w_int_b ?_
  | refine w_max2 ?_
  | refine w_min2 ?_
  | refine w_isN_int ?_
  | refine w_isN_non ?_
  | refine w_notN_int ?_
  | refine w_notN_non ?_
  | refine w_isN_opt ?_
  | refine w_notN_opt ?_
  | refine iteT ?_
  | refine iteF ?_
  | refine w_dput ?_
  | refine w_dget ?_
  | refine w_din ?_
  | refine w_dnotin ?_
  | refine w_bm ?_
  | refine w_bm0 ?_
  | refine w_meth ?_
  | refine w_make ?_
  | refine w_fld ?_
  | refine w_gcons ?_
  | refine w_gnil ?_
  | refine w_sl ?_
  | refine w_part ?_
  | refine w_partI ?_
  | refine w_nopart ?_
  | refine w_sfld ?_
  | refine w_dc ?_
  | refine w_aug (by with_unfolding_all rfl) ?_)
local macro_rules | `(tactic| wtm_at "gs") => `(tactic| repeat wtm_at "gs1")
/-! ### pictures: the data, how the heap bears them -/
theorem pget {α β : Type} {F : α → β → Prop} : ∀ {xs : List α} {ys : List β} {i : Nat} {y : β}, Paired F xs ys → ys[i]? = some y → ∃ x, xs[i]? = some x ∧ F x y
  | _, _, _, _, .nil, e => by simp at e
  | _, _, 0, _, .cons r _, e => by
    simp at e
    subst e
    exact ⟨_, rfl, r⟩
  | _, _, i + 1, y, .cons _ t, e => by
    obtain ⟨x, h1, h2⟩ := pget (i := i) t (by simpa using e)
    exact ⟨x, by simpa using h1, h2⟩
theorem pgetL {α β : Type} {F : α → β → Prop} : ∀ {xs : List α} {ys : List β} {i : Nat} {x : α}, Paired F xs ys → xs[i]? = some x → ∃ y, ys[i]? = some y ∧ F x y
  | _, _, _, _, .nil, e => by simp at e
  | _, _, 0, _, .cons r _, e => by
    simp at e
    subst e
    exact ⟨_, rfl, r⟩
  | _, _, i + 1, y, .cons _ t, e => by
    obtain ⟨x, h1, h2⟩ := pgetL (i := i) t (by simpa using e)
    exact ⟨x, by simpa using h1, h2⟩
theorem papp {α β : Type} {F : α → β → Prop} : ∀ {xs xs' : List α} {ys ys' : List β}, Paired F xs ys → Paired F xs' ys' → Paired F (xs ++ xs') (ys ++ ys')
  | _, _, _, _, .nil, t => t
  | _, _, _, _, .cons r s, t => .cons r (papp s t)
theorem pmem {α β : Type} {F : α → β → Prop} : ∀ {xs : List α} {ys : List β} {x : α}, Paired F xs ys → x ∈ xs → ∃ y ∈ ys, F x y
  | _, _, _, .nil, e => by simp at e
  | _, _, x, .cons r t, e => by
    rcases List.mem_cons.mp e with e | e
    · subst e
      exact ⟨_, List.mem_cons_self, r⟩
    · obtain ⟨y, h1, h2⟩ := pmem t e
      exact ⟨y, List.mem_cons_of_mem _ h1, h2⟩
def iv (ws : List Int) : List V := ws.map V.int
theorem iv_len (ws : List Int) : (iv ws).length = ws.length := by
  unfold iv
  rw [List.length_map]
theorem iv_get {ws : List Int} {i : Nat} {w : Int} (h : ws[i]? = some w) : (iv ws)[i]? = some (.int w) := by
  unfold iv
  rw [List.getElem?_map, h]
  rfl
theorem iv_at {ws : List Int} {i : Nat} {v : V} (h : (iv ws)[i]? = some v) : ∃ w, ws[i]? = some w ∧ v = .int w := by
  unfold iv at h
  rw [List.getElem?_map] at h
  cases e : ws[i]? with
  | none =>
    rw [e] at h
    cases h
  | some w =>
    rw [e] at h
    exact ⟨w, rfl, (Option.some.inj h).symm⟩
theorem iv_app (xs ys : List Int) : iv (xs ++ ys) = iv xs ++ iv ys := List.map_append
theorem iv_inj {xs ys : List Int} (h : iv xs = iv ys) : xs = ys := by
  induction xs generalizing ys with
  | nil =>
    cases ys with
    | nil => rfl
    | cons y ys => cases h
  | cons x xs ih =>
    cases ys with
    | nil => cases h
    | cons y ys =>
      injection h with h1 h2
      injection h1 with h3
      rw [h3, ih h2]
/-- a name whose signs all have a number that may stand -/
abbrev Nm := {s : Str // PyData.strOk s = true}
def nm0 : Nm := ⟨"", by decide +kernel⟩
structure Frm where
  name : Nm
  place : Int
  slots : List Int
  stack : List Int
structure Pic where
  statics : List Int
  frames : List Frm
  watched : List Int
  parted : List Int
  objs : List (Nm × List Int)
def Pic.rows (P : Pic) : List (List Int) := [P.statics] ++ P.frames.flatMap (fun f => [f.slots, f.stack]) ++ [P.watched, P.parted]
def Pic.pays (P : Pic) : List (List Int) := P.objs.map (·.2)
/-! how things stand, over S: what is a sequence of these things -/
section
variable (S : Addr → List V → Prop)
def RI (v : V) (ws : List Int) : Prop := ∃ a, v = .ref a ∧ S a (iv ws)
def RF (v : V) (f : Frm) : Prop := ∃ a x y, v = .ref a ∧ S a [.str f.name.1, .int f.place, x, y] ∧ RI S x f.slots ∧ RI S y f.stack
def RFs (v : V) (fs : List Frm) : Prop := ∃ a xs, v = .ref a ∧ S a xs ∧ Paired (RF S) xs fs
def RO (v : V) (o : Nm × List Int) : Prop := ∃ a x, v = .ref a ∧ S a [.str o.1.1, x] ∧ RI S x o.2
def ROs (v : V) (os : List (Nm × List Int)) : Prop := ∃ a xs, v = .ref a ∧ S a xs ∧ Paired (RO S) xs os
def RR (v : V) (rs : List (List Int)) : Prop := ∃ a xs, v = .ref a ∧ S a xs ∧ Paired (RI S) xs rs
end
section
variable {S S' : Addr → List V → Prop} (m : ∀ a xs, S a xs → S' a xs)
include m
theorem RI.mono {v : V} {ws : List Int} (h : RI S v ws) : RI S' v ws := by
  obtain ⟨a, e, h⟩ := h
  exact ⟨a, e, m _ _ h⟩
theorem RF.mono {v : V} {f : Frm} (h : RF S v f) : RF S' v f := by
  obtain ⟨a, x, y, e, h, h1, h2⟩ := h
  exact ⟨a, x, y, e, m _ _ h, h1.mono m, h2.mono m⟩
theorem RFs.mono {v : V} {f : List Frm} (h : RFs S v f) : RFs S' v f := by
  obtain ⟨a, xs, e, h, p⟩ := h
  exact ⟨a, xs, e, m _ _ h, Paired.mapP p fun _ _ q => q.mono m⟩
theorem RO.mono {v : V} {o : Nm × List Int} (h : RO S v o) : RO S' v o := by
  obtain ⟨a, x, e, h, p⟩ := h
  exact ⟨a, x, e, m _ _ h, p.mono m⟩
theorem ROs.mono {v : V} {o : List (Nm × List Int)} (h : ROs S v o) : ROs S' v o := by
  obtain ⟨a, xs, e, h, p⟩ := h
  exact ⟨a, xs, e, m _ _ h, Paired.mapP p fun _ _ q => q.mono m⟩
theorem RR.mono {v : V} {o : List (List Int)} (h : RR S v o) : RR S' v o := by
  obtain ⟨a, xs, e, h, p⟩ := h
  exact ⟨a, xs, e, m _ _ h, Paired.mapP p fun _ _ q => q.mono m⟩
end
/-- the parts of a picture: a list or tuple of five; what they are made of stands by S -/
def RP (S0 S : Addr → List V → Prop) (v : V) (P : Pic) : Prop := ∃ a x0 x1 x2 x3 x4, v = .ref a ∧ S0 a [x0, x1, x2, x3, x4] ∧ RI S x0 P.statics ∧ RFs S x1 P.frames ∧ RI S x2 P.watched ∧ RI S x3 P.parted ∧ ROs S x4 P.objs
theorem RP.mono {S0 S0' S S' : Addr → List V → Prop} {v : V} {P : Pic} (m0 : ∀ a xs, S0 a xs → S0' a xs) (m : ∀ a xs, S a xs → S' a xs) (h : RP S0 S v P) : RP S0' S' v P := by
  obtain ⟨a, x0, x1, x2, x3, x4, e, h, h0, h1, h2, h3, h4⟩ := h
  exact ⟨a, x0, x1, x2, x3, x4, e, m0 _ _ h, h0.mono m, h1.mono m, h2.mono m, h3.mono m, h4.mono m⟩
/-- sequences of any kind; tuples; lists that stand in H itself -/
abbrev SQ (K : PySem.W.Frag) (H : Hp) : Addr → List V → Prop := Sq K H
abbrev ST (K : PySem.W.Frag) (H : Hp) : Addr → List V → Prop := SqT K H
abbrev SL (H : Hp) : Addr → List V → Prop := fun a xs => H a = some (.lst xs)
theorem st_sq {K : PySem.W.Frag} {H : Hp} : ∀ a xs, ST K H a xs → SQ K H a xs := fun _ _ h => .inr h
theorem sl_sq {K : PySem.W.Frag} {H : Hp} : ∀ a xs, SL H a xs → SQ K H a xs := fun _ _ h => .l h
theorem sq_m {K : PySem.W.Frag} {H H' : Hp} (s : Same H H') : ∀ a xs, SQ K H a xs → SQ K H' a xs := fun _ _ h => h.same s
theorem st_m {K : PySem.W.Frag} {H H' : Hp} (s : Same H H') : ∀ a xs, ST K H a xs → ST K H' a xs := fun _ _ h => sqt_same s h
theorem sl_m {H H' : Hp} (s : Same H H') : ∀ a xs, SL H a xs → SL H' a xs := fun _ _ h => s _ _ h
/-- parts with tuples within -/
abbrev RPn (K : PySem.W.Frag) (H : Hp) (v : V) (P : Pic) : Prop := RP (SL H) (ST K H) v P
theorem RPn.same {K : PySem.W.Frag} {H H' : Hp} {v : V} {P : Pic} (s : Same H H') (h : RPn K H v P) : RPn K H' v P := RP.mono (sl_m s) (st_m s) h
theorem RPn.any {K : PySem.W.Frag} {H : Hp} {v : V} {P : Pic} (h : RPn K H v P) : RP (SQ K H) (SQ K H) v P := RP.mono sl_sq st_sq h
/-- what is known of the class -/
structure PFacts (K : PySem.W.Frag) (C : Addr) : Prop where
  cl : Cls K C
  n0 : NoAttr K C "statics"
  n1 : NoAttr K C "frames"
  n2 : NoAttr K C "watched"
  n3 : NoAttr K C "parted"
  n4 : NoAttr K C "objects"
/-- an instance of Picture -/
def PicT (K : PySem.W.Frag) (C : Addr) (H : Hp) (p : Addr) (P : Pic) : Prop := PFacts K C ∧ ∃ dx fs x0 x1 x2 x3 x4, H p = some (.ins C dx fs) ∧
  fs.lookup ("statics" : Str) = some x0 ∧ fs.lookup ("frames" : Str) = some x1 ∧ fs.lookup ("watched" : Str) = some x2 ∧ fs.lookup ("parted" : Str) = some x3 ∧ fs.lookup ("objects" : Str) = some x4 ∧ fs.lookup ("rows" : Str) = none ∧
  RI (ST K H) x0 P.statics ∧ RFs (ST K H) x1 P.frames ∧ RI (ST K H) x2 P.watched ∧ RI (ST K H) x3 P.parted ∧ ROs (ST K H) x4 P.objs
theorem PicT.at_ {K : PySem.W.Frag} {C : Addr} {H H' : Hp} {p : Addr} {P : Pic} (hp : ∀ o, H p = some o → H' p = some o) (m : ∀ a xs, ST K H a xs → ST K H' a xs) (h : PicT K C H p P) : PicT K C H' p P := by
  obtain ⟨pf, dx, fs, x0, x1, x2, x3, x4, e, l0, l1, l2, l3, l4, l5, h0, h1, h2, h3, h4⟩ := h
  exact ⟨pf, dx, fs, x0, x1, x2, x3, x4, hp _ e, l0, l1, l2, l3, l4, l5, h0.mono m, h1.mono m, h2.mono m, h3.mono m, h4.mono m⟩
theorem PicT.same {K : PySem.W.Frag} {C : Addr} {H H' : Hp} {p : Addr} {P : Pic} (s : Same H H') (h : PicT K C H p P) : PicT K C H' p P := h.at_ (fun _ e => s _ _ e) (st_m s)
theorem st_upd {K : PySem.W.Frag} {H : Hp} {l : Addr} {xs ys : List V} (e : H l = some (.lst xs)) : ∀ a zs, ST K H a zs → ST K (upd H l (.lst ys)) a zs := fun a zs h => by
  rcases h with (h | ⟨o, h⟩) | h
  · exact .inl (.inl (get_ne h (ne_of h e (by intro z; cases z))))
  · exact .inl (.inr ⟨o, get_ne h (ne_of h e (by intro z; cases z))⟩)
  · exact .inr h
/-- a list is changed: pictures stay -/
theorem PicT.upd {K : PySem.W.Frag} {C : Addr} {H : Hp} {p l : Addr} {P : Pic} {xs ys : List V} (h : PicT K C H p P) (e : H l = some (.lst xs)) : PicT K C (L2.upd H l (.lst ys)) p P := by
  obtain ⟨_, dx, fs, _, _, _, _, _, e', _⟩ := id h
  refine h.at_ (fun o q => get_ne q fun z => ?_) (st_upd e)
  subst z
  rw [e'] at e
  cases e
section
variable {K : PySem.W.Frag} {C : Addr} {H : Hp} {p : Addr} {P : Pic} {Q : VK} (h : PicT K C H p P)
include h
theorem pic0 (q : ∀ x, RI (ST K H) x P.statics → Q x H) : ∃ a C dx fs v, V.ref p = .ref a ∧ H a = some (.ins C dx fs) ∧ Cls K C ∧ NoAttr K C "statics" ∧ fs.lookup ("statics" : Str) = some v ∧ Q v H := by
  obtain ⟨pf, dx, fs, x0, x1, x2, x3, x4, e, l0, l1, l2, l3, l4, l5, h0, h1, h2, h3, h4⟩ := h
  exact ⟨p, C, dx, fs, x0, rfl, e, pf.cl, pf.n0, l0, q _ h0⟩
theorem pic1 (q : ∀ x, RFs (ST K H) x P.frames → Q x H) : ∃ a C dx fs v, V.ref p = .ref a ∧ H a = some (.ins C dx fs) ∧ Cls K C ∧ NoAttr K C "frames" ∧ fs.lookup ("frames" : Str) = some v ∧ Q v H := by
  obtain ⟨pf, dx, fs, x0, x1, x2, x3, x4, e, l0, l1, l2, l3, l4, l5, h0, h1, h2, h3, h4⟩ := h
  exact ⟨p, C, dx, fs, x1, rfl, e, pf.cl, pf.n1, l1, q _ h1⟩
theorem pic2 (q : ∀ x, RI (ST K H) x P.watched → Q x H) : ∃ a C dx fs v, V.ref p = .ref a ∧ H a = some (.ins C dx fs) ∧ Cls K C ∧ NoAttr K C "watched" ∧ fs.lookup ("watched" : Str) = some v ∧ Q v H := by
  obtain ⟨pf, dx, fs, x0, x1, x2, x3, x4, e, l0, l1, l2, l3, l4, l5, h0, h1, h2, h3, h4⟩ := h
  exact ⟨p, C, dx, fs, x2, rfl, e, pf.cl, pf.n2, l2, q _ h2⟩
theorem pic3 (q : ∀ x, RI (ST K H) x P.parted → Q x H) : ∃ a C dx fs v, V.ref p = .ref a ∧ H a = some (.ins C dx fs) ∧ Cls K C ∧ NoAttr K C "parted" ∧ fs.lookup ("parted" : Str) = some v ∧ Q v H := by
  obtain ⟨pf, dx, fs, x0, x1, x2, x3, x4, e, l0, l1, l2, l3, l4, l5, h0, h1, h2, h3, h4⟩ := h
  exact ⟨p, C, dx, fs, x3, rfl, e, pf.cl, pf.n3, l3, q _ h3⟩
theorem pic4 (q : ∀ x, ROs (ST K H) x P.objs → Q x H) : ∃ a C dx fs v, V.ref p = .ref a ∧ H a = some (.ins C dx fs) ∧ Cls K C ∧ NoAttr K C "objects" ∧ fs.lookup ("objects" : Str) = some v ∧ Q v H := by
  obtain ⟨pf, dx, fs, x0, x1, x2, x3, x4, e, l0, l1, l2, l3, l4, l5, h0, h1, h2, h3, h4⟩ := h
  exact ⟨p, C, dx, fs, x4, rfl, e, pf.cl, pf.n4, l4, q _ h4⟩
/-- the rows' method is asked -/
theorem picM {R : Prop} (q : R) : ∃ a dx fs, V.ref p = .ref a ∧ H a = some (.ins C dx fs) ∧ fs.lookup ("rows" : Str) = none ∧ R := by
  obtain ⟨pf, dx, fs, x0, x1, x2, x3, x4, e, l0, l1, l2, l3, l4, l5, h0, h1, h2, h3, h4⟩ := h
  exact ⟨p, dx, fs, rfl, e, l5, q⟩
end
/-! the rows -/
theorem rf_rows {S : Addr → List V → Prop} : ∀ {xs : List V} {fs : List Frm}, Paired (RF S) xs fs → ∃ qs : List (V × V), Paired (fun (x : V) (q : V × V) => ∃ a n p, x = .ref a ∧ S a [n, p, q.1, q.2]) xs qs ∧ Paired (RI S) (qs.flatMap fun q => [q.1, q.2]) (fs.flatMap fun f => [f.slots, f.stack])
  | _, _, .nil => ⟨[], .nil, .nil⟩
  | _, _, .cons r t => by
    obtain ⟨qs, h1, h2⟩ := rf_rows t
    obtain ⟨a, x, y, e, h, hx, hy⟩ := r
    exact ⟨(x, y) :: qs, .cons ⟨a, _, _, e, h⟩ h1, .cons hx (.cons hy h2)⟩
/-! which words are references, and to what -/
def refOf (w : Int) : Option Int := if w % 2 = 0 ∧ w ≠ 0 then some (w / 2 - 1) else none
/-- a word that may stand in a picture of n objects -/
def Val (n : Nat) (w : Int) : Prop := w % 2 = 1 ∨ w = 0 ∨ ∃ k : Nat, k < n ∧ w = 2 * (k : Int) + 2
theorem Val.mono {n m : Nat} {w : Int} (h : Val n w) (l : n ≤ m) : Val m w := by
  rcases h with h | h | ⟨k, h1, h2⟩
  · exact .inl h
  · exact .inr (.inl h)
  · exact .inr (.inr ⟨k, by omega, h2⟩)
theorem Val.ref {n : Nat} {w k : Int} (h : Val n w) (e : refOf w = some k) : 0 ≤ k ∧ k < n ∧ w = 2 * k + 2 := by
  unfold refOf at e
  split at e
  · rename_i c
    have e := Option.some.inj e
    rcases h with h | h | ⟨j, h1, h2⟩
    · omega
    · omega
    · omega
  · cases e
theorem Val.pos {n : Nat} {w : Int} (h : Val n w) : (0 < w ∧ w % 2 = 0) ↔ ∃ k, refOf w = some k := by
  constructor
  · intro c
    refine ⟨w / 2 - 1, ?_⟩
    unfold refOf
    rw [if_pos ⟨c.2, by omega⟩]
  · intro ⟨k, e⟩
    obtain ⟨h1, h2, h3⟩ := h.ref e
    omega
theorem ref_is {k : Int} : refOf (2 * k + 2) = if k = -1 then none else some k := by
  unfold refOf
  by_cases h : k = -1
  · rw [if_pos h, if_neg]
    omega
  · rw [if_neg h, if_pos (by omega)]
    congr 1
    omega
theorem val_ref {n : Nat} {k : Nat} (h : k < n) : Val n (2 * (k : Int) + 2) := .inr (.inr ⟨k, h, rfl⟩)
def Vals' (n : Nat) (ws : List Int) : Prop := ∀ w ∈ ws, Val n w
structure VPic (n B : Nat) (P : Pic) : Prop where
  rows : ∀ ws ∈ P.rows, Vals' n ws ∧ ws.length ≤ B
  pays : ∀ ws ∈ P.pays, Vals' n ws ∧ ws.length ≤ B
  cnt : P.objs.length = n
  frs : P.frames.length ≤ B
/-! ### the promises -/
/-! what is met, one behind another; bar: what is never met -/
def meet1 (bar : Int → Bool) (L : List Int) (n : Int) : List Int := if bar n = true ∨ n ∈ L then L else L ++ [n]
def meetN (bar : Int → Bool) (L : List Int) (ns : List Int) : List Int := ns.foldl (meet1 bar) L
def refs (ws : List Int) : List Int := ws.filterMap refOf
def payload (objs : List (List Int)) (k : Int) : List Int := (objs[k.toNat]?).getD []
def held0 (bar : Int → Bool) (rows : List (List Int)) : List Int := rows.foldl (fun L ws => meetN bar L (refs ws)) []
def heldS (bar : Int → Bool) (objs : List (List Int)) (L : List Int) (k : Nat) : List Int := match L[k]? with
  | some j => meetN bar L (refs (payload objs j))
  | none => L
def heldN (bar : Int → Bool) (rows objs : List (List Int)) : Nat → List Int
  | 0 => held0 bar rows
  | k + 1 => heldS bar objs (heldN bar rows objs k) k
/-- L: all that is met, in this order -/
def Held (bar : Int → Bool) (rows objs : List (List Int)) (L : List Int) : Prop := L = heldN bar rows objs L.length
def nobar : Int → Bool := fun _ => false
def bar1 (b : Int) : Int → Bool := fun k => decide (k = b)
/-! renumbering -/
def turnW (f : Int → Int) (w : Int) : Int := if 0 < w ∧ w % 2 = 0 then 2 * f (w / 2 - 1) + 2 else w
def spot (L : List Int) (k : Int) : Int := ((L.idxOf k : Nat) : Int)
def turns (f : Int → Int) (ws : List Int) : List Int := ws.map (turnW f)
def relabel (P : Pic) (L : List Int) : Pic where
  statics := turns (spot L) P.statics
  frames := P.frames.map fun f => ⟨f.name, f.place, turns (spot L) f.slots, turns (spot L) f.stack⟩
  watched := turns (spot L) P.watched
  parted := turns (spot L) P.parted
  objs := L.map fun k => (((P.objs[k.toNat]?).map (·.1)).getD nm0, turns (spot L) (payload P.pays k))
def Numbered (P N : Pic) : Prop := ∃ L, Held nobar P.rows P.pays L ∧ N = relabel P L
/-! lists of words that change in place: those at A; all that Hf knows stays -/
structure Mt (Hf H : Hp) (A : List Addr) (n B : Nat) : Prop where
  sf : Same Hf H
  fr : ∀ l ∈ A, Hf l = none
  ok : ∀ l ∈ A, ∃ ws : List Int, H l = some (.lst (iv ws)) ∧ Vals' n ws ∧ ws.length ≤ B
/-- the parts, all of lists, whose rows and payloads lie at A -/
structure Skel (Hf : Hp) (v : V) (A : List Addr) (n m : Nat) : Prop where
  ex : ∃ (p s f w q o : Addr) (fs os : List V), v = .ref p ∧ Hf p = some (.lst [.ref s, .ref f, .ref w, .ref q, .ref o]) ∧ s ∈ A ∧ w ∈ A ∧ q ∈ A ∧
    Hf f = some (.lst fs) ∧ (∀ x ∈ fs, ∃ (a : Addr) (nm : Nm) (pl : Int) (b c : Addr), x = .ref a ∧ Hf a = some (.lst [.str nm.1, .int pl, .ref b, .ref c]) ∧ b ∈ A ∧ c ∈ A) ∧
    Hf o = some (.lst os) ∧ os.length = n ∧ fs.length ≤ m ∧ (∀ x ∈ os, ∃ (a : Addr) (nm : Nm) (b : Addr), x = .ref a ∧ Hf a = some (.lst [.str nm.1, .ref b]) ∧ b ∈ A)
theorem Mt.same {Hf H H' : Hp} {A : List Addr} {n B : Nat} (m : Mt Hf H A n B) (s : Same H H') : Mt Hf H' A n B :=
  ⟨m.sf.trans s, m.fr, fun l hl => by
    obtain ⟨ws, e, q⟩ := m.ok l hl
    exact ⟨ws, s _ _ e, q⟩⟩
theorem Mt.grow {Hf H H' : Hp} {A : List Addr} {n B : Nat} {x : Addr} {o : HO} (m : Mt Hf H A n B) (s : Same H H') (hx : H x = none) (e : H' x = some o) : Mt (upd Hf x o) H' A n B := by
  have hne : ∀ l ∈ A, l ≠ x := fun l hl z => by
    obtain ⟨ws, q, _⟩ := m.ok l hl
    rw [z, hx] at q
    cases q
  refine ⟨fun b u q => ?_, fun l hl => ?_, (m.same s).ok⟩
  · by_cases z : b = x
    · subst z
      rw [upd_same] at q
      rw [e]
      exact q
    · rw [upd_ne z] at q
      exact s _ _ (m.sf _ _ q)
  · rw [upd_ne (hne l hl)]
    exact m.fr l hl
theorem Mt.add {Hf H H' : Hp} {A : List Addr} {n B : Nat} {x : Addr} {ws : List Int} (m : Mt Hf H A n B) (s : Same H H') (hx : H x = none) (e : H' x = some (.lst (iv ws))) (hv : Vals' n ws) (hl : ws.length ≤ B) : Mt Hf H' (x :: A) n B := by
  refine ⟨m.sf.trans s, fun l h => ?_, fun l h => ?_⟩
  · rcases List.mem_cons.mp h with h | h
    · subst h
      exact m.sf.free hx
    · exact m.fr l h
  · rcases List.mem_cons.mp h with h | h
    · subst h
      exact ⟨ws, e, hv, hl⟩
    · exact (m.same s).ok l h
theorem Mt.more {Hf H : Hp} {A : List Addr} {n B B' : Nat} (m : Mt Hf H A n B) (h : B ≤ B') : Mt Hf H A n B' :=
  ⟨m.sf, m.fr, fun l hl => by
    obtain ⟨ws, e, h1, h2⟩ := m.ok l hl
    exact ⟨ws, e, h1, Nat.le_trans h2 h⟩⟩
theorem Mt.put {Hf H : Hp} {A : List Addr} {n B B' : Nat} {l : Addr} {ws : List Int} (m : Mt Hf H A n B) (hl : l ∈ A) (hv : Vals' n ws) (hb : ws.length ≤ B') (h : B ≤ B') : Mt Hf (upd H l (.lst (iv ws))) A n B' := by
  refine ⟨same_mut m.sf (m.fr l hl), m.fr, fun k hk => ?_⟩
  by_cases z : k = l
  · subst z
    exact ⟨ws, upd_same, hv, hb⟩
  · obtain ⟨us, e, h1, h2⟩ := m.ok k hk
    exact ⟨us, get_ne e z, h1, Nat.le_trans h2 h⟩
/-! the small defs -/
def sp_is_reference (K : PySem.W.Frag) : Sp := fun vs H Q _ => ∃ n : Int, vs = [.int n] ∧ Q (.bl (refOf n).isSome) H
def sp_address_of (K : PySem.W.Frag) : Sp := fun vs H Q _ => ∃ n : Int, vs = [.int n] ∧ Q (.int (n / 2)) H
def sp_target_at (K : PySem.W.Frag) : Sp := fun vs H Q _ => ∃ (a : Addr) (ws : List Int) (k : Nat) (w : Int), vs = [.ref a, .int k] ∧ Sq K H a (iv ws) ∧ ws[k]? = some w ∧ Q (optV (refOf w)) H
/-- the references among the words, with their places -/
def tgts (ws : List Int) : List (Int × Int) := (List.range ws.length).filterMap fun (i : Nat) => ((ws[i]?).bind refOf).map fun n => ((i : Int), n)
def PairAt (H : Hp) (v : V) (p : Int × Int) : Prop := ∃ a, v = .ref a ∧ H a = some (.tup [.int p.1, .int p.2])
def sp_targets (K : PySem.W.Frag) : Sp := fun vs H Q _ => ∃ (a : Addr) (ws : List Int), vs = [.ref a] ∧ Sq K H a (iv ws) ∧ ws.length ≤ 100000 ∧
  ∀ H' p xs, Same H H' → H p = none → H' p = some (.lst xs) → Paired (PairAt H') xs (tgts ws) → Q (.ref p) H'
def sp_meet (K : PySem.W.Frag) : Sp := fun vs H Q _ => ∃ (f o d : Addr) (xs : List V) (ns : List (Int × Int)) (L : List Int) (F : Int → Option V) (n : Nat) (bar : Int → Bool), vs = [.ref f, .ref o, .ref d] ∧
  H f = some (.lst xs) ∧ Paired (PairAt H) xs ns ∧ f ≠ o ∧ H o = some (.lst (iv L)) ∧ IDict H d F (n + L.length) ∧ (∀ k, (F k).isSome = (bar k || decide (k ∈ L))) ∧ n + L.length + ns.length ≤ 1000000 ∧
  ∀ H' F', (∀ b, b ≠ o → b ≠ d → H' b = H b) → H' o = some (.lst (iv (meetN bar L (ns.map (·.2))))) → IDict H' d F' (n + (meetN bar L (ns.map (·.2))).length) → (∀ k, (F' k).isSome = (bar k || decide (k ∈ meetN bar L (ns.map (·.2))))) → Q .non H'
/-! pictures -/
abbrev PC (K : PySem.W.Frag) : Addr := He.ga K "Picture"
def sp_Picture___init__ (K : PySem.W.Frag) : Sp := fun vs H Q _ => ∃ (p dx : Addr) (x0 x1 x2 x3 x4 : V) (P : Pic) (n B : Nat), PFacts K (PC K) ∧ vs = [.ref p, x0, x1, x2, x3, x4] ∧ H p = some (.ins (PC K) dx []) ∧
  RI (SQ K H) x0 P.statics ∧ RFs (SQ K H) x1 P.frames ∧ RI (SQ K H) x2 P.watched ∧ RI (SQ K H) x3 P.parted ∧ ROs (SQ K H) x4 P.objs ∧ P.frames.length ≤ 100000 ∧ P.objs.length ≤ 100000 ∧
  ∀ H', (∀ b o, b ≠ p → H b = some o → H' b = some o) → PicT K (PC K) H' p P → Q .non H'
def sp_Picture_rows (K : PySem.W.Frag) : Sp := fun vs H Q _ => ∃ (p : Addr) (P : Pic), vs = [.ref p] ∧ PicT K (PC K) H p P ∧ P.frames.length ≤ 100000 ∧
  ∀ H' q xs, Same H H' → SqT K H' q xs → Paired (RI (ST K H')) xs P.rows → Q (.ref q) H'
/-- the dict of what is met -/
def sp_reached_without (K : PySem.W.Frag) : Sp := fun vs H Q _ => ∃ (p : Addr) (P : Pic) (b : Int) (n B : Nat), vs = [.ref p, .int b] ∧ PicT K (PC K) H p P ∧ VPic n B P ∧ n ≤ 10000 ∧ B ≤ 100000 ∧
  ∀ H' q F L, Same H H' → H q = none → Held (bar1 b) P.rows P.pays L → IDict H' q F 100000 → (∀ k, (F k).isSome = decide (k ∈ L)) → Q (.ref q) H'
/-! the law's own -/
def sp__law_whole (K : PySem.W.Frag) : Sp := fun vs H Q _ => ∃ v, vs = [v] ∧ ((∃ i, v = .int i ∧ Q (.bl true) H) ∨ (v = .non ∧ Q (.bl false) H))
def sp__law_cell (K : PySem.W.Frag) : Sp := fun vs H Q _ => ∃ (a : Addr) (ns : List Int) (k : Int), vs = [.ref a, .int k] ∧ SqL K H a (ns.map V.int) ∧ 0 ≤ k ∧ k < 1000 ∧ ∀ z : Int, Q (.int z) H
def Digits (ds ss : List Int) : Prop := Paired (fun d s => 0 ≤ d ∧ d < s) ds ss
def sp__law_digits (K : PySem.W.Frag) : Sp := fun vs H Q _ => ∃ (z : Int) (a : Addr) (ss : List Int), vs = [.int z, .ref a] ∧ H a = some (.lst (iv ss)) ∧ (∀ x ∈ ss, 0 < x ∧ x < 2 ^ 63) ∧ ss.length ≤ 1000 ∧
  ∀ H' p ds, Same H H' → H p = none → H' p = some (.lst (iv ds)) → Digits ds ss → Q (.ref p) H'
def sp__law_held (K : PySem.W.Frag) : Sp := fun vs H Q _ => ∃ (x y : V) (rows : List (List Int)) (objs : List (Nm × List Int)) (n B : Nat), vs = [x, y] ∧ RR (SQ K H) x rows ∧ ROs (SQ K H) y objs ∧ objs.length = n ∧ n ≤ 10000 ∧ B ≤ 100000 ∧
  (∀ ws ∈ rows, Vals' n ws ∧ ws.length ≤ B) ∧ (∀ o ∈ objs, Vals' n o.2 ∧ o.2.length ≤ B) ∧
  ∀ H' p L, Same H H' → H p = none → H' p = some (.lst (iv L)) → Held nobar rows (objs.map (·.2)) L → Q (.ref p) H'
def sp__law_turned (K : PySem.W.Frag) : Sp := fun vs H Q _ => ∃ (w : Int) (d : Addr) (F : Int → Option V) (n : Nat) (f : Int → Int), vs = [.int w, .ref d] ∧ IDict H d F n ∧ (0 < w ∧ w % 2 = 0 → F (w / 2 - 1) = some (.int (f (w / 2 - 1)))) ∧ Q (.int (turnW f w)) H
def sp__law_turned_row (K : PySem.W.Frag) : Sp := fun vs H Q _ => ∃ (x : V) (ws : List Int) (d : Addr) (F : Int → Option V) (n : Nat) (f : Int → Int), vs = [x, .ref d] ∧ RI (SQ K H) x ws ∧ ws.length ≤ 100000 ∧ IDict H d F n ∧ (∀ w ∈ ws, 0 < w ∧ w % 2 = 0 → F (w / 2 - 1) = some (.int (f (w / 2 - 1)))) ∧
  ∀ H' y, Same H H' → RI (ST K H') y (turns f ws) → Q y H'
def sp__law_words (K : PySem.W.Frag) : Sp := fun vs H Q _ => ∃ (r : Addr) (ds : List Int) (at_ cnt many : Nat) (dense : Int), vs = [.ref r, .int at_, .int cnt, .int many, .int dense] ∧ H r = some (.lst (iv ds)) ∧ at_ + 3 * cnt ≤ ds.length ∧ cnt ≤ 1000 ∧
  ∀ H' p ws, Same H H' → H p = none → H' p = some (.lst (iv ws)) → ws.length = cnt → Vals' many ws → Q (.ref p) H'
/-- the rows' values -/
def sp__law_root_rows (K : PySem.W.Frag) : Sp := fun vs H Q _ => ∃ (a a1 : Addr) (x0 x2 x3 x4 : V) (fs : List V) (qs : List (V × V)), vs = [.ref a] ∧ Sq K H a [x0, .ref a1, x2, x3, x4] ∧ Sq K H a1 fs ∧ fs.length ≤ 100000 ∧
  Paired (fun (x : V) (q : V × V) => ∃ b n p, x = .ref b ∧ Sq K H b [n, p, q.1, q.2]) fs qs ∧
  ∀ H' p, Same H H' → H p = none → H' p = some (.lst ([x0] ++ qs.flatMap (fun q => [q.1, q.2]) ++ [x2, x3])) → Q (.ref p) H'
def sp__law_numbered (K : PySem.W.Frag) : Sp := fun vs H Q _ => ∃ (x : V) (P : Pic) (n B : Nat), vs = [x] ∧ RP (SQ K H) (SQ K H) x P ∧ VPic n B P ∧ n ≤ 10000 ∧ B ≤ 10000 ∧
  ∀ H' y N, Same H H' → RPn K H' y N → Numbered P N → Q y H'
/-- links: a list of lists of four digits -/
def Links (Hf : Hp) (l : Addr) (n : Nat) : Prop := ∃ xs, Hf l = some (.lst xs) ∧ xs.length = n ∧ ∀ x ∈ xs, ∃ (b : Addr) (d0 d1 d2 d3 : Int), x = .ref b ∧ Hf b = some (.lst (iv [d0, d1, d2, d3])) ∧ 0 ≤ d0 ∧ 0 ≤ d1 ∧ d1 < 2 ^ 32 ∧ 0 ≤ d2
def sp__law_linked (K : PySem.W.Frag) : Sp := fun vs H Q _ => ∃ (x : V) (l : Addr) (tall narrow woven : Bool) (Hf : Hp) (A : List Addr) (n B m : Nat), vs = [x, .ref l, .bl tall, .bl narrow, .bl woven] ∧ Mt Hf H A n B ∧ Skel Hf x A n m ∧ Links Hf l n ∧ n ≤ 1000 ∧ B ≤ 1000 ∧ m ≤ 1000 ∧
  ∀ H', Mt Hf H' A n (B + 2 * n) → Q .non H'
def sp__law_padded (K : PySem.W.Frag) : Sp := fun vs H Q _ => ∃ (x : V) (l : Addr) (d0 d1 d2 : Int) (rest : List Int) (Hf : Hp) (A : List Addr) (n B m : Nat), vs = [x, .ref l] ∧ Mt Hf H A n B ∧ Skel Hf x A n m ∧ H l = some (.lst (iv (d0 :: d1 :: d2 :: rest))) ∧ 0 ≤ d0 ∧ d0 < 8 ∧ 0 ≤ d1 ∧ d1 < 64 ∧ 0 ≤ d2 ∧ d2 < 64 ∧ Hf l = H l ∧ n ≤ 1000 ∧ B ≤ 4000 ∧ m ≤ 1000 ∧
  ∀ H', Mt Hf H' A n (B + 2000) → Q .non H'
/-- a picture that the law draws: numbered anew, of at most 32 objects -/
def Drawn (N : Pic) : Prop := ∃ P, VPic P.objs.length 8000 P ∧ P.objs.length ≤ 32 ∧ Numbered P N
def sp__law_drawn (K : PySem.W.Frag) : Sp := fun vs H Q _ => ∃ (a : Addr) (ns : List Int), vs = [.ref a, .int 0] ∧ SqL K H a (ns.map V.int) ∧
  ∀ H' y N, Same H H' → RPn K H' y N → Drawn N → Q y H'
def sp__law_mirrored (K : PySem.W.Frag) : Sp := fun vs H Q _ => ∃ (x : V) (N : Pic) (n B : Nat), vs = [x] ∧ RPn K H x N ∧ VPic n B N ∧ n ≤ 1000 ∧ B ≤ 9000 ∧
  ∀ H' y P N', Same H H' → VPic n B P → RPn K H' y N' → Numbered P N' → Q y H'
def sp__law_made (K : PySem.W.Frag) : Sp := fun vs H Q _ => ∃ (x : V) (N : Pic) (b : Bool) (n B : Nat), PFacts K (PC K) ∧ vs = [x, .bl b] ∧ RPn K H x N ∧ VPic n B N ∧ n ≤ 1000 ∧ B ≤ 9000 ∧
  ∀ H' p, Same H H' → PicT K (PC K) H' p N → Q (.ref p) H'
def sp__law_stays (K : PySem.W.Frag) : Sp := fun vs H Q _ => ∃ (p : Addr) (x : V) (N : Pic), vs = [.ref p, x] ∧ PicT K (PC K) H p N ∧ RPn K H x N ∧ Q (.bl true) H
/-! ### what is met: the mathematics -/
theorem meet1_mem {bar : Int → Bool} {L : List Int} {n x : Int} : x ∈ meet1 bar L n ↔ x ∈ L ∨ (x = n ∧ bar x = false) := by
  unfold meet1
  by_cases h : bar n = true ∨ n ∈ L
  · rw [if_pos h]
    constructor
    · exact .inl
    · rintro (z | ⟨z, e⟩)
      · exact z
      · subst z
        rcases h with h | h
        · rw [h] at e
          cases e
        · exact h
  · rw [if_neg h, List.mem_append, List.mem_singleton]
    constructor
    · rintro (z | z)
      · exact .inl z
      · refine .inr ⟨z, ?_⟩
        subst z
        cases e : bar x with
        | false => rfl
        | true => exact absurd (.inl e) h
    · rintro (z | ⟨z, _⟩)
      · exact .inl z
      · exact .inr z
theorem meetN_mem {bar : Int → Bool} {x : Int} : ∀ {ns L : List Int}, x ∈ meetN bar L ns ↔ x ∈ L ∨ (x ∈ ns ∧ bar x = false)
  | [], L => by
    show x ∈ L ↔ _
    simp
  | n :: ns, L => by
    show x ∈ meetN bar (meet1 bar L n) ns ↔ _
    rw [meetN_mem, meet1_mem, List.mem_cons]
    constructor
    · rintro ((h | h) | h)
      · exact .inl h
      · exact .inr ⟨.inl h.1, h.2⟩
      · exact .inr ⟨.inr h.1, h.2⟩
    · rintro (h | ⟨h | h, e⟩)
      · exact .inl (.inl h)
      · exact .inl (.inr ⟨h, e⟩)
      · exact .inr ⟨h, e⟩
theorem meet1_nd {bar : Int → Bool} {L : List Int} {n : Int} (h : L.Nodup) : (meet1 bar L n).Nodup := by
  unfold meet1
  by_cases c : bar n = true ∨ n ∈ L
  · rw [if_pos c]
    exact h
  · rw [if_neg c]
    refine List.nodup_append.mpr ⟨h, by simp, fun a ha b hb => ?_⟩
    rw [List.mem_singleton.mp hb]
    intro z
    subst z
    exact c (.inr ha)
theorem meetN_nd {bar : Int → Bool} : ∀ {ns L : List Int}, L.Nodup → (meetN bar L ns).Nodup
  | [], _, h => h
  | n :: ns, L, h => by
    show (meetN bar (meet1 bar L n) ns).Nodup
    exact meetN_nd (meet1_nd h)
theorem meetN_pre {bar : Int → Bool} : ∀ {ns L : List Int}, ∃ M, meetN bar L ns = L ++ M
  | [], L => ⟨[], (List.append_nil L).symm⟩
  | n :: ns, L => by
    obtain ⟨M, e⟩ := meetN_pre (bar := bar) (ns := ns) (L := meet1 bar L n)
    have e1 : ∃ M, meet1 bar L n = L ++ M := by
      unfold meet1
      split
      · exact ⟨[], (List.append_nil L).symm⟩
      · exact ⟨[n], rfl⟩
    obtain ⟨M1, e1⟩ := e1
    refine ⟨M1 ++ M, ?_⟩
    show meetN bar (meet1 bar L n) ns = _
    rw [e, e1, List.append_assoc]
theorem held0_fold {bar : Int → Bool} {x : Int} : ∀ {rows : List (List Int)} {L : List Int}, x ∈ rows.foldl (fun L ws => meetN bar L (refs ws)) L ↔ x ∈ L ∨ (∃ ws ∈ rows, x ∈ refs ws) ∧ bar x = false
  | [], L => by
    show x ∈ L ↔ _
    simp
  | ws :: rows, L => by
    show x ∈ rows.foldl (fun L ws => meetN bar L (refs ws)) (meetN bar L (refs ws)) ↔ _
    rw [held0_fold, meetN_mem]
    constructor
    · rintro ((h | h) | ⟨⟨us, h1, h2⟩, e⟩)
      · exact .inl h
      · exact .inr ⟨⟨ws, List.mem_cons_self, h.1⟩, h.2⟩
      · exact .inr ⟨⟨us, List.mem_cons_of_mem _ h1, h2⟩, e⟩
    · rintro (h | ⟨⟨us, h1, h2⟩, e⟩)
      · exact .inl (.inl h)
      · rcases List.mem_cons.mp h1 with z | z
        · subst z
          exact .inl (.inr ⟨h2, e⟩)
        · exact .inr ⟨⟨us, z, h2⟩, e⟩
theorem held0_mem {bar : Int → Bool} {rows : List (List Int)} {x : Int} : x ∈ held0 bar rows ↔ (∃ ws ∈ rows, x ∈ refs ws) ∧ bar x = false := by
  unfold held0
  rw [held0_fold]
  simp
theorem fold_nd {bar : Int → Bool} : ∀ {rows : List (List Int)} {L : List Int}, L.Nodup → (rows.foldl (fun L ws => meetN bar L (refs ws)) L).Nodup
  | [], _, h => h
  | ws :: rows, L, h => by
    show (rows.foldl (fun L ws => meetN bar L (refs ws)) (meetN bar L (refs ws))).Nodup
    exact fold_nd (meetN_nd h)
theorem heldS_some {bar : Int → Bool} {objs : List (List Int)} {L : List Int} {k : Nat} {j : Int} (h : L[k]? = some j) : heldS bar objs L k = meetN bar L (refs (payload objs j)) := by
  unfold heldS
  rw [h]
theorem heldS_none {bar : Int → Bool} {objs : List (List Int)} {L : List Int} {k : Nat} (h : L[k]? = none) : heldS bar objs L k = L := by
  unfold heldS
  rw [h]
theorem heldN_nd {bar : Int → Bool} {rows objs : List (List Int)} : ∀ k, (heldN bar rows objs k).Nodup
  | 0 => fold_nd List.nodup_nil
  | k + 1 => by
    show (heldS bar objs (heldN bar rows objs k) k).Nodup
    cases e : (heldN bar rows objs k)[k]? with
    | none =>
      rw [heldS_none e]
      exact heldN_nd k
    | some j =>
      rw [heldS_some e]
      exact meetN_nd (heldN_nd k)
theorem heldN_pre {bar : Int → Bool} {rows objs : List (List Int)} (k : Nat) : ∃ M, heldN bar rows objs (k + 1) = heldN bar rows objs k ++ M := by
  show ∃ M, heldS bar objs (heldN bar rows objs k) k = _
  cases e : (heldN bar rows objs k)[k]? with
  | none =>
    rw [heldS_none e]
    exact ⟨[], (List.append_nil _).symm⟩
  | some j =>
    rw [heldS_some e]
    exact meetN_pre
theorem heldN_preD {bar : Int → Bool} {rows objs : List (List Int)} (k : Nat) : ∀ d, ∃ M, heldN bar rows objs (k + d) = heldN bar rows objs k ++ M
  | 0 => ⟨[], (List.append_nil _).symm⟩
  | d + 1 => by
    obtain ⟨M, e⟩ := heldN_preD (bar := bar) (rows := rows) (objs := objs) k d
    obtain ⟨M', e'⟩ := heldN_pre (bar := bar) (rows := rows) (objs := objs) (k + d)
    refine ⟨M ++ M', ?_⟩
    show heldN bar rows objs (k + d + 1) = _
    rw [e', e, List.append_assoc]
theorem heldN_get {bar : Int → Bool} {rows objs : List (List Int)} {k m i : Nat} (h : k ≤ m) (hi : i < (heldN bar rows objs k).length) : (heldN bar rows objs m)[i]? = (heldN bar rows objs k)[i]? := by
  obtain ⟨M, e⟩ := heldN_preD (bar := bar) (rows := rows) (objs := objs) k (m - k)
  rw [show k + (m - k) = m by omega] at e
  rw [e, List.getElem?_append_left hi]
theorem heldN_len {bar : Int → Bool} {rows objs : List (List Int)} {k m : Nat} (h : k ≤ m) : (heldN bar rows objs k).length ≤ (heldN bar rows objs m).length := by
  obtain ⟨M, e⟩ := heldN_preD (bar := bar) (rows := rows) (objs := objs) k (m - k)
  rw [show k + (m - k) = m by omega] at e
  rw [e, List.length_append]
  omega
/-- whole numbers from 0 to n - 1, each once, are at most n -/
theorem pigeon : ∀ (n : Nat) (L : List Int), L.Nodup → (∀ x ∈ L, 0 ≤ x ∧ x < (n : Int)) → L.length ≤ n
  | 0, L, _, h => by
    cases L with
    | nil => exact Nat.le_refl _
    | cons x L =>
      have := h x List.mem_cons_self
      omega
  | n + 1, L, nd, h => by
    have ih := pigeon n (L.erase (n : Int)) (nd.erase _) fun x hx => by
      have h1 := h x (List.mem_of_mem_erase hx)
      have h2 : x ≠ (n : Int) := (nd.mem_erase_iff.mp hx).1
      omega
    have := List.length_erase (a := (n : Int)) (l := L)
    split at this <;> omega
theorem refs_mem {ws : List Int} {k : Int} : k ∈ refs ws ↔ ∃ w ∈ ws, refOf w = some k := List.mem_filterMap
theorem payload_mem {objs : List (List Int)} {k : Int} {w : Int} (h : w ∈ payload objs k) : ∃ ws ∈ objs, w ∈ ws := by
  unfold payload at h
  cases e : objs[k.toNat]? with
  | none =>
    rw [e] at h
    simp at h
  | some ws =>
    rw [e] at h
    exact ⟨ws, List.mem_of_getElem? e, h⟩
/-- what is met lies in bounds -/
theorem heldN_in {bar : Int → Bool} {rows objs : List (List Int)} {n : Nat} (hr : ∀ ws ∈ rows, Vals' n ws) (ho : ∀ ws ∈ objs, Vals' n ws) : ∀ k, ∀ x ∈ heldN bar rows objs k, 0 ≤ x ∧ x < (n : Int)
  | 0, x, h => by
    obtain ⟨⟨ws, h1, h2⟩, _⟩ := held0_mem.mp h
    obtain ⟨w, h3, h4⟩ := refs_mem.mp h2
    have := (hr ws h1 w h3).ref h4
    exact ⟨this.1, this.2.1⟩
  | k + 1, x, h => by
    have h : x ∈ heldS bar objs (heldN bar rows objs k) k := h
    cases e : (heldN bar rows objs k)[k]? with
    | none =>
      rw [heldS_none e] at h
      exact heldN_in hr ho k x h
    | some j =>
      rw [heldS_some e] at h
      rcases meetN_mem.mp h with h | ⟨h, _⟩
      · exact heldN_in hr ho k x h
      · obtain ⟨w, h3, h4⟩ := refs_mem.mp h
        obtain ⟨ws, h5, h6⟩ := payload_mem h3
        have := (ho ws h5 w h6).ref h4
        exact ⟨this.1, this.2.1⟩
theorem heldN_small {bar : Int → Bool} {rows objs : List (List Int)} {n : Nat} (hr : ∀ ws ∈ rows, Vals' n ws) (ho : ∀ ws ∈ objs, Vals' n ws) (k : Nat) : (heldN bar rows objs k).length ≤ n := pigeon n _ (heldN_nd k) (heldN_in hr ho k)
/-- what is held is closed -/
theorem Held.rows_in {bar : Int → Bool} {rows objs : List (List Int)} {L ws : List Int} {k : Int} (h : Held bar rows objs L) (hw : ws ∈ rows) (hk : k ∈ refs ws) (hb : bar k = false) : k ∈ L := by
  obtain ⟨M, e⟩ := heldN_preD (bar := bar) (rows := rows) (objs := objs) 0 L.length
  rw [Nat.zero_add] at e
  rw [h, e]
  exact List.mem_append.mpr (.inl (held0_mem.mpr ⟨⟨ws, hw, hk⟩, hb⟩))
theorem heldN_stop {bar : Int → Bool} {rows objs : List (List Int)} {i : Nat} (h : (heldN bar rows objs i)[i]? = none) : ∀ d, heldN bar rows objs (i + d) = heldN bar rows objs i
  | 0 => rfl
  | d + 1 => by
    have ih := heldN_stop h d
    show heldS bar objs (heldN bar rows objs (i + d)) (i + d) = _
    rw [ih, heldS_none]
    have := List.getElem?_eq_none_iff.mp h
    exact List.getElem?_eq_none_iff.mpr (by omega)
theorem Held.at_ {bar : Int → Bool} {rows objs : List (List Int)} {L : List Int} (h : Held bar rows objs L) {i : Nat} {j : Int} (hj : L[i]? = some j) : (heldN bar rows objs i)[i]? = some j := by
  have hi : i < L.length := (List.getElem?_eq_some_iff.mp hj).1
  cases e : (heldN bar rows objs i)[i]? with
  | none =>
    have z := heldN_stop e (L.length - i)
    rw [show i + (L.length - i) = L.length by omega, ← h] at z
    rw [← z, hj] at e
    cases e
  | some j' =>
    have z := heldN_get (bar := bar) (rows := rows) (objs := objs) (k := i) (m := L.length) (i := i) (by omega) (List.getElem?_eq_some_iff.mp e).1
    rw [← h, hj, e] at z
    rw [z]
theorem Held.pays_in {bar : Int → Bool} {rows objs : List (List Int)} {L : List Int} {j k : Int} (h : Held bar rows objs L) (hj : j ∈ L) (hk : k ∈ refs (payload objs j)) (hb : bar k = false) : k ∈ L := by
  obtain ⟨i, hi⟩ := List.mem_iff_getElem?.mp hj
  have hi2 : i < L.length := (List.getElem?_eq_some_iff.mp hi).1
  have e := h.at_ hi
  obtain ⟨M, eM⟩ := heldN_preD (bar := bar) (rows := rows) (objs := objs) (i + 1) (L.length - (i + 1))
  rw [show i + 1 + (L.length - (i + 1)) = L.length by omega, ← h] at eM
  rw [eM]
  refine List.mem_append.mpr (.inl ?_)
  show k ∈ heldS bar objs (heldN bar rows objs i) i
  rw [heldS_some e]
  exact meetN_mem.mpr (.inr ⟨hk, hb⟩)
theorem Held.nd {bar : Int → Bool} {rows objs : List (List Int)} {L : List Int} (h : Held bar rows objs L) : L.Nodup := by
  rw [h]
  exact heldN_nd _
theorem Held.in_ {bar : Int → Bool} {rows objs : List (List Int)} {L : List Int} {n : Nat} (h : Held bar rows objs L) (hr : ∀ ws ∈ rows, Vals' n ws) (ho : ∀ ws ∈ objs, Vals' n ws) : ∀ x ∈ L, 0 ≤ x ∧ x < (n : Int) := by
  rw [h]
  exact heldN_in hr ho _
theorem Held.small {bar : Int → Bool} {rows objs : List (List Int)} {L : List Int} {n : Nat} (h : Held bar rows objs L) (hr : ∀ ws ∈ rows, Vals' n ws) (ho : ∀ ws ∈ objs, Vals' n ws) : L.length ≤ n := pigeon n L h.nd (h.in_ hr ho)
theorem refs_len (ws : List Int) : (refs ws).length ≤ ws.length := List.length_filterMap_le _ _
/-! ### the readings (printed by gen.py) -/
noncomputable def t_is_reference (K : PySem.W.Frag) : TS :=
  (tRet (tAndV (tOp rEq (tOp rModI (tVar 0) (tC (.int 2))) (tC (.int 0))) (tOp rNe (tVar 0) (tC (.int 0)))))
noncomputable def t_address_of (K : PySem.W.Frag) : TS :=
  (tRet (tOp rDivI (tVar 0) (tC (.int 2))))
noncomputable def t_target_at (K : PySem.W.Frag) : TS :=
  (tSeq (tIfS (tOr (tNot (tTest (tChain rLeI rLtI (tC (.int 0)) (tVar 1) (tCB (rLenQ K) (tCons (tVar 0) tNil))))) (tNot (tB (tCall (sp_is_reference K) [] E0 (tCons (tOp (rIx K) (tVar 0) (tVar 1)) tNil))))) (tRet (tC .non)) tNext)
    (tRet (tOp rSubI (tCall (sp_address_of K) [] E0 (tCons (tOp (rIx K) (tVar 0) (tVar 1)) tNil)) (tC (.int 1)))))
noncomputable def t_targets (K : PySem.W.Frag) : TS :=
  (tSeq (tAsg (tLst tNil) (gName 1))
    (tSeq (tFor (iRng1 (tCons (tCB (rLenQ K) (tCons (tVar 0) tNil)) tNil)) (gName 2) (tSeq (tAsg (tCall (sp_target_at K) [] E0 (tCons (tVar 0) (tCons (tVar 2) tNil))) (gName 3))
    (tIfS (tTest (tOp rNotN (tVar 3) (tC .non))) (tDrop (tBM K "list" rAppend (tVar 1) (tCons (tTup (tCons (tVar 2) (tCons (tVar 3) tNil))) tNil))) tNext)))
    (tRet (tVar 1))))
noncomputable def t_meet (K : PySem.W.Frag) : TS :=
  (tFor (iSeq K (tVar 0)) (gSq K 2 (gCons (gName 3) (gCons (gName 4) gNil))) (tIfS (tB (tDNotIn (tVar 4) (tVar 2))) (tSeq (sDPut (tVar 2) (tVar 4) (tC (.bl true)))
    (tDrop (tBM K "list" rAppend (tVar 1) (tCons (tVar 4) tNil)))) tNext))
noncomputable def t_reached_without (K : PySem.W.Frag) : TS :=
  (tSeq (tAsg (tLst tNil) (gName 2))
    (tSeq (tAsg (tDisp (((tVar 1), (tC (.bl true))) :: [])) (gName 3))
    (tSeq (tFor (iSeq K (tMeth (He.ga K "Picture") "rows" (sp_Picture_rows K) [] E0 (tVar 0) tNil)) (gName 4) (tDrop (tCall (sp_meet K) [] E0 (tCons (tCall (sp_targets K) [] E0 (tCons (tVar 4) tNil)) (tCons (tVar 2) (tCons (tVar 3) tNil))))))
    (tSeq (tAsg (tC (.int 0)) (gName 5))
    (tSeq (tWhile (tTest (tOp rLtI (tVar 5) (tCB (rLenQ K) (tCons (tVar 2) tNil)))) (tSeq (tDrop (tCall (sp_meet K) [] E0 (tCons (tCall (sp_targets K) [] E0 (tCons (tOp (rIx K) (tOp (rIx K) (tFld K (tVar 0) "objects") (tOp (rIx K) (tVar 2) (tVar 5))) (tC (.int 1))) tNil)) (tCons (tVar 2) (tCons (tVar 3) tNil)))))
    (tAsg (tOp rAddI (tVar 5) (tC (.int 1))) (gName 5))))
    (tRet (tDc (iSeq K (tVar 2)) (gName 6) tYes (tVar 6) (tC (.bl true)) [6])))))))
noncomputable def t_Picture___init__ (K : PySem.W.Frag) : TS :=
  (tSeq (sFld K (tVar 0) (tCB (rTupQ K) (tCons (tVar 1) tNil)) "statics")
    (tSeq (sFld K (tVar 0) (tCB (rTupQ K) (tCons (tLc (iSeq K (tVar 2)) (gSq K 4 (gCons (gName 6) (gCons (gName 7) (gCons (gName 8) (gCons (gName 9) gNil))))) tYes (tTup (tCons (tVar 6) (tCons (tVar 7) (tCons (tCB (rTupQ K) (tCons (tVar 8) tNil)) (tCons (tCB (rTupQ K) (tCons (tVar 9) tNil)) tNil))))) [6, 7, 8, 9]) tNil)) "frames")
    (tSeq (sFld K (tVar 0) (tCB (rTupQ K) (tCons (tVar 3) tNil)) "watched")
    (tSeq (sFld K (tVar 0) (tCB (rTupQ K) (tCons (tVar 4) tNil)) "parted")
    (sFld K (tVar 0) (tCB (rTupQ K) (tCons (tLc (iSeq K (tVar 5)) (gSq K 2 (gCons (gName 6) (gCons (gName 10) gNil))) tYes (tTup (tCons (tVar 6) (tCons (tCB (rTupQ K) (tCons (tVar 10) tNil)) tNil))) [6, 10]) tNil)) "objects")))))
noncomputable def t_Picture_rows (K : PySem.W.Frag) : TS :=
  (tSeq (tAsg (tLst (tCons (tFld K (tVar 0) "statics") tNil)) (gName 1))
    (tSeq (tFor (iSeq K (tFld K (tVar 0) "frames")) (gName 2) (tSeq (tDrop (tBM K "list" rAppend (tVar 1) (tCons (tOp (rIx K) (tVar 2) (tC (.int 2))) tNil)))
    (tDrop (tBM K "list" rAppend (tVar 1) (tCons (tOp (rIx K) (tVar 2) (tC (.int 3))) tNil)))))
    (tRet (tCB (rTupQ K) (tCons (tOp rCat (tVar 1) (tLst (tCons (tFld K (tVar 0) "watched") (tCons (tFld K (tVar 0) "parted") tNil)))) tNil)))))
noncomputable def t__law_whole (K : PySem.W.Frag) : TS :=
  (tRet (tAndV (tCB (rIsi K) (tCons (tVar 0) (tCons (tC (.ty "int")) tNil))) (tNotV (tCB (rIsi K) (tCons (tVar 0) (tCons (tC (.ty "bool")) tNil))))))
noncomputable def t__law_cell (K : PySem.W.Frag) : TS :=
  (tSeq (tIfS (tTest (tOp rLtI (tVar 1) (tCB (rLenQ K) (tCons (tVar 0) tNil)))) (tRet (tOp (rIx K) (tVar 0) (tVar 1))) tNext)
    (tSeq (tAsg (tC (.int 17)) (gName 2))
    (tSeq (tFor (iSeq K (tVar 0)) (gName 3) (tAsg (tOp rModI (tCB rIntQ (tCons (tOp rAddI (tOp rMulI (tVar 2) (tC (.int 31))) (tOp rModI (tCB rIntQ (tCons (tVar 3) tNil)) (tC (.int 1000003)))) tNil)) (tC (.int 1000003))) (gName 2)))
    (tRet (tOp rModI (tCB rIntQ (tCons (tOp rMulI (tOp rMulI (tOp rAddI (tVar 2) (tC (.int 7))) (tOp rAddI (tVar 1) (tC (.int 3)))) (tC (.int 69621))) tNil)) (tC (.int 2147483647)))))))
noncomputable def t__law_digits (K : PySem.W.Frag) : TS :=
  (tSeq (tAsg (tLst tNil) (gName 2))
    (tSeq (tAsg (tCB rIntQ (tCons (tVar 0) tNil)) (gName 3))
    (tSeq (tIfS (tTest (tOp rGeI (tVar 3) (tOp rPowI (tC (.int 10)) (tC (.int 18))))) (tSeq (tAsg (tOp rSubI (tVar 3) (tOp rPowI (tC (.int 10)) (tC (.int 18)))) (gName 3))
    (tSeq (tFor (iSeq K (tVar 1)) (gName 4) (tSeq (tDrop (tBM K "list" rAppend (tVar 2) (tCons (tOp rModI (tCB rIntQ (tCons (tVar 3) tNil)) (tVar 4)) tNil)))
    (tAsg (tOp rDivI (tCB rIntQ (tCons (tVar 3) tNil)) (tVar 4)) (gName 3))))
    (tRet (tVar 2)))) tNext)
    (tSeq (tAsg (tOp rModI (tCB rIntQ (tCons (tVar 3) tNil)) (tC (.int 2147483629))) (gName 5))
    (tSeq (tFor (iRng1 (tCons (tCB (rLenQ K) (tCons (tVar 1) tNil)) tNil)) (gName 6) (tSeq (tAsg (tOp rModI (tCB rIntQ (tCons (tOp rAddI (tOp rAddI (tOp rMulI (tVar 5) (tC (.int 48271))) (tOp rMulI (tC (.int 974711)) (tVar 6))) (tC (.int 12345))) tNil)) (tC (.int 2147483647))) (gName 5))
    (tSeq (tAsg (tOp rModI (tCB rIntQ (tCons (tOp rMulI (tVar 5) (tOp rAddI (tOp rDivI (tVar 5) (tC (.int 65537))) (tC (.int 3)))) tNil)) (tC (.int 2147483629))) (gName 7))
    (tDrop (tBM K "list" rAppend (tVar 2) (tCons (tOp rModI (tOp rDivI (tVar 7) (tC (.int 19))) (tOp (rIx K) (tVar 1) (tVar 6))) tNil))))))
    (tRet (tVar 2)))))))
noncomputable def t__law_held (K : PySem.W.Frag) : TS :=
  (tSeq (tAsg (tLst tNil) (gName 2))
    (tSeq (tAsg tDNewK (gName 3))
    (tSeq (tFor (iSeq K (tVar 0)) (gName 4) (tFor (iSeq K (tVar 4)) (gName 5) (tIfS (tAnd (tTest (tOp rGtI (tVar 5) (tC (.int 0)))) (tAnd (tTest (tOp rEq (tOp rModI (tCB rIntQ (tCons (tVar 5) tNil)) (tC (.int 2))) (tC (.int 0)))) (tB (tDNotIn (tVar 5) (tVar 3))))) (tSeq (sDPut (tVar 3) (tVar 5) (tC (.bl true)))
    (tDrop (tBM K "list" rAppend (tVar 2) (tCons (tOp rSubI (tOp rDivI (tVar 5) (tC (.int 2))) (tC (.int 1))) tNil)))) tNext)))
    (tSeq (tFor (iRng1 (tCons (tC (.int 100000)) tNil)) (gName 6) (tSeq (tIfS (tTest (tOp rGeI (tVar 6) (tCB (rLenQ K) (tCons (tVar 2) tNil)))) tBreak tNext)
    (tFor (iSeq K (tOp (rIx K) (tOp (rIx K) (tVar 1) (tOp (rIx K) (tVar 2) (tVar 6))) (tC (.int 1)))) (gName 5) (tIfS (tAnd (tTest (tOp rGtI (tVar 5) (tC (.int 0)))) (tAnd (tTest (tOp rEq (tOp rModI (tCB rIntQ (tCons (tVar 5) tNil)) (tC (.int 2))) (tC (.int 0)))) (tB (tDNotIn (tVar 5) (tVar 3))))) (tSeq (sDPut (tVar 3) (tVar 5) (tC (.bl true)))
    (tDrop (tBM K "list" rAppend (tVar 2) (tCons (tOp rSubI (tOp rDivI (tVar 5) (tC (.int 2))) (tC (.int 1))) tNil)))) tNext))))
    (tRet (tVar 2))))))
noncomputable def t__law_turned (K : PySem.W.Frag) : TS :=
  (tSeq (tIfS (tAnd (tTest (tOp rGtI (tVar 0) (tC (.int 0)))) (tTest (tOp rEq (tOp rModI (tCB rIntQ (tCons (tVar 0) tNil)) (tC (.int 2))) (tC (.int 0))))) (tRet (tOp rAddI (tOp rMulI (tC (.int 2)) (tDGet (tVar 1) (tOp rSubI (tOp rDivI (tVar 0) (tC (.int 2))) (tC (.int 1))))) (tC (.int 2)))) tNext)
    (tRet (tVar 0)))
noncomputable def t__law_turned_row (K : PySem.W.Frag) : TS :=
  (tRet (tCB (rTupQ K) (tCons (tLc (iSeq K (tVar 0)) (gName 2) tYes (tCall (sp__law_turned K) [] E0 (tCons (tVar 2) (tCons (tVar 1) tNil))) [2]) tNil)))
noncomputable def t__law_words (K : PySem.W.Frag) : TS :=
  (tSeq (tAsg (tLst tNil) (gName 5))
    (tSeq (tFor (iRng1 (tCons (tVar 2) tNil)) (gName 6) (tSeq (tAsg (tOp (rIx K) (tVar 0) (tOp rAddI (tVar 1) (tOp rMulI (tC (.int 3)) (tVar 6)))) (gName 7))
    (tSeq (tAsg (tOp (rIx K) (tVar 0) (tOp rAddI (tOp rAddI (tVar 1) (tOp rMulI (tC (.int 3)) (tVar 6))) (tC (.int 1)))) (gName 8))
    (tIfS (tAnd (tTest (tOp rLtI (tVar 7) (tVar 4))) (tTest (tOp rGtI (tVar 3) (tC (.int 0))))) (tDrop (tBM K "list" rAppend (tVar 5) (tCons (tOp rAddI (tOp rMulI (tC (.int 2)) (tOp rModI (tCB rIntQ (tCons (tVar 8) tNil)) (tVar 3))) (tC (.int 2))) tNil))) (tIfS (tTest (tOp rEq (tVar 7) (tC (.int 7)))) (tDrop (tBM K "list" rAppend (tVar 5) (tCons (tC (.int 0)) tNil))) (tIfS (tTest (tOp rEq (tVar 7) (tC (.int 6)))) (tDrop (tBM K "list" rAppend (tVar 5) (tCons (tOp rSubI (tOp rMulI (tC (.int 2)) (tOp (rIx K) (tVar 0) (tOp rAddI (tOp rAddI (tVar 1) (tOp rMulI (tC (.int 3)) (tVar 6))) (tC (.int 2))))) (tC (.int 4294967295))) tNil))) (tDrop (tBM K "list" rAppend (tVar 5) (tCons (tOp rSubI (tOp rMulI (tC (.int 2)) (tOp rModI (tCB rIntQ (tCons (tVar 8) tNil)) (tC (.int 15)))) (tC (.int 1))) tNil)))))))))
    (tRet (tVar 5))))
noncomputable def t__law_root_rows (K : PySem.W.Frag) : TS :=
  (tSeq (tAsg (tLst (tCons (tOp (rIx K) (tVar 0) (tC (.int 0))) tNil)) (gName 1))
    (tSeq (tFor (iSeq K (tOp (rIx K) (tVar 0) (tC (.int 1)))) (gName 2) (tAsg (tOp rCat (tVar 1) (tLst (tCons (tOp (rIx K) (tVar 2) (tC (.int 2))) (tCons (tOp (rIx K) (tVar 2) (tC (.int 3))) tNil)))) (gName 1)))
    (tRet (tOp rCat (tVar 1) (tLst (tCons (tOp (rIx K) (tVar 0) (tC (.int 2))) (tCons (tOp (rIx K) (tVar 0) (tC (.int 3))) tNil)))))))
noncomputable def t__law_numbered (K : PySem.W.Frag) : TS :=
  (tSeq (tAsg (tCall (sp__law_held K) [] E0 (tCons (tCall (sp__law_root_rows K) [] E0 (tCons (tVar 0) tNil)) (tCons (tOp (rIx K) (tVar 0) (tC (.int 4))) tNil))) (gName 1))
    (tSeq (tAsg tDNewK (gName 2))
    (tSeq (tFor (iRng1 (tCons (tCB (rLenQ K) (tCons (tVar 1) tNil)) tNil)) (gName 3) (sDPut (tVar 2) (tOp (rIx K) (tVar 1) (tVar 3)) (tVar 3)))
    (tSeq (tAsg (tLc (iSeq K (tOp (rIx K) (tVar 0) (tC (.int 1)))) (gName 6) tYes (tTup (tCons (tOp (rIx K) (tVar 6) (tC (.int 0))) (tCons (tOp (rIx K) (tVar 6) (tC (.int 1))) (tCons (tCall (sp__law_turned_row K) [] E0 (tCons (tOp (rIx K) (tVar 6) (tC (.int 2))) (tCons (tVar 2) tNil))) (tCons (tCall (sp__law_turned_row K) [] E0 (tCons (tOp (rIx K) (tVar 6) (tC (.int 3))) (tCons (tVar 2) tNil))) tNil))))) [6]) (gName 4))
    (tSeq (tAsg (tLc (iSeq K (tVar 1)) (gName 3) tYes (tTup (tCons (tOp (rIx K) (tOp (rIx K) (tOp (rIx K) (tVar 0) (tC (.int 4))) (tVar 3)) (tC (.int 0))) (tCons (tCall (sp__law_turned_row K) [] E0 (tCons (tOp (rIx K) (tOp (rIx K) (tOp (rIx K) (tVar 0) (tC (.int 4))) (tVar 3)) (tC (.int 1))) (tCons (tVar 2) tNil))) tNil))) [3]) (gName 5))
    (tRet (tLst (tCons (tCall (sp__law_turned_row K) [] E0 (tCons (tOp (rIx K) (tVar 0) (tC (.int 0))) (tCons (tVar 2) tNil))) (tCons (tCB (rTupQ K) (tCons (tVar 4) tNil)) (tCons (tCall (sp__law_turned_row K) [] E0 (tCons (tOp (rIx K) (tVar 0) (tC (.int 2))) (tCons (tVar 2) tNil))) (tCons (tCall (sp__law_turned_row K) [] E0 (tCons (tOp (rIx K) (tVar 0) (tC (.int 3))) (tCons (tVar 2) tNil))) (tCons (tCB (rTupQ K) (tCons (tVar 5) tNil)) tNil))))))))))))
noncomputable def t__law_padded (K : PySem.W.Frag) : TS :=
  (tSeq (tAsg (tLst (tCons (tC (.int 1)) (tCons (tC (.int 0)) (tCons (tC (.int 23)) (tCons (tUn rNegI (tC (.int 7))) (tCons (tC (.int 3)) (tCons (tC (.int 5)) (tCons (tC (.int 4294967295)) tNil)))))))) (gName 2))
    (tSeq (tAsg (tOp (rIx K) (tLst (tCons (tC (.int 1)) (tCons (tC (.int 20)) (tCons (tC (.int 1)) (tCons (tC (.int 1)) tNil))))) (tOp rModI (tCB rIntQ (tCons (tOp (rIx K) (tVar 1) (tC (.int 1))) tNil)) (tC (.int 4)))) (gName 3))
    (tSeq (tAsg (tOp rMulI (tOp (rIx K) (tLst (tCons (tC (.int 0)) (tCons (tC (.int 0)) (tCons (tC (.int 0)) (tCons (tC (.int 0)) (tCons (tC (.int 0)) (tCons (tC (.int 9)) (tCons (tC (.int 11)) (tCons (tC (.int 40)) tNil))))))))) (tOp (rIx K) (tVar 1) (tC (.int 0)))) (tVar 3)) (gName 4))
    (tSeq (tAsg (tCall (sp__law_root_rows K) [] E0 (tCons (tVar 0) tNil)) (gName 5))
    (tSeq (tAsg (tOp (rIx K) (tVar 5) (tOp rModI (tCB rIntQ (tCons (tOp (rIx K) (tVar 1) (tC (.int 1))) tNil)) (tOp rSubI (tCB (rLenQ K) (tCons (tVar 5) tNil)) (tC (.int 2))))) (gName 6))
    (tSeq (tFor (iRng1 (tCons (tOp rMulI (tOp (rIx K) (tLst (tCons (tC (.int 0)) (tCons (tC (.int 9)) (tCons (tC (.int 0)) (tCons (tC (.int 12)) (tCons (tC (.int 0)) (tCons (tC (.int 0)) (tCons (tC (.int 10)) (tCons (tC (.int 0)) tNil))))))))) (tOp (rIx K) (tVar 1) (tC (.int 0)))) (tVar 3)) tNil)) (gName 7) (tDrop (tBM K "list" rInsertQ (tVar 6) (tCons (tC (.int 0)) (tCons (tOp (rIx K) (tVar 2) (tOp rModI (tCB rIntQ (tCons (tOp rAddI (tVar 7) (tOp (rIx K) (tVar 1) (tC (.int 2)))) tNil)) (tC (.int 7)))) tNil)))))
    (tIfS (tTest (tOp rGtI (tCB (rLenQ K) (tCons (tOp (rIx K) (tVar 0) (tC (.int 4))) tNil)) (tC (.int 0)))) (tSeq (tAsg (tOp (rIx K) (tOp (rIx K) (tOp (rIx K) (tVar 0) (tC (.int 4))) (tOp rModI (tCB rIntQ (tCons (tOp (rIx K) (tVar 1) (tC (.int 2))) tNil)) (tCB (rLenQ K) (tCons (tOp (rIx K) (tVar 0) (tC (.int 4))) tNil)))) (tC (.int 1))) (gName 8))
    (tFor (iRng1 (tCons (tVar 4) tNil)) (gName 7) (tDrop (tBM K "list" rInsertQ (tVar 8) (tCons (tC (.int 0)) (tCons (tOp (rIx K) (tVar 2) (tOp rModI (tCB rIntQ (tCons (tOp rAddI (tVar 7) (tOp (rIx K) (tVar 1) (tC (.int 1)))) tNil)) (tC (.int 7)))) tNil)))))) tNext)))))))
noncomputable def t__law_mirrored (K : PySem.W.Frag) : TS :=
  (tSeq (tAsg (tLc (iSeq K (tOp (rIx K) (tVar 0) (tC (.int 1)))) (gName 3) tYes (tLst (tCons (tOp (rIx K) (tVar 3) (tC (.int 0))) (tCons (tOp (rIx K) (tVar 3) (tC (.int 1))) (tCons (tRevL K (tCB (rLstQ K) (tCons (tOp (rIx K) (tVar 3) (tC (.int 2))) tNil))) (tCons (tRevL K (tCB (rLstQ K) (tCons (tOp (rIx K) (tVar 3) (tC (.int 3))) tNil))) tNil))))) [3]) (gName 1))
    (tSeq (tAsg (tLc (iSeq K (tOp (rIx K) (tVar 0) (tC (.int 4)))) (gName 4) tYes (tLst (tCons (tOp (rIx K) (tVar 4) (tC (.int 0))) (tCons (tRevL K (tCB (rLstQ K) (tCons (tOp (rIx K) (tVar 4) (tC (.int 1))) tNil))) tNil))) [4]) (gName 2))
    (tRet (tCall (sp__law_numbered K) [] E0 (tCons (tLst (tCons (tRevL K (tCB (rLstQ K) (tCons (tOp (rIx K) (tVar 0) (tC (.int 0))) tNil))) (tCons (tVar 1) (tCons (tRevL K (tCB (rLstQ K) (tCons (tOp (rIx K) (tVar 0) (tC (.int 2))) tNil))) (tCons (tRevL K (tCB (rLstQ K) (tCons (tOp (rIx K) (tVar 0) (tC (.int 3))) tNil))) (tCons (tVar 2) tNil)))))) tNil)))))
noncomputable def t__law_made (K : PySem.W.Frag) : TS :=
  (tSeq (tIfS (tNot (tB (tVar 1))) (tRet (tMake (He.ga K "Picture") (sp_Picture___init__ K) [] E0 (tCons (tOp (rIx K) (tVar 0) (tC (.int 0))) (tCons (tOp (rIx K) (tVar 0) (tC (.int 1))) (tCons (tOp (rIx K) (tVar 0) (tC (.int 2))) (tCons (tOp (rIx K) (tVar 0) (tC (.int 3))) (tCons (tOp (rIx K) (tVar 0) (tC (.int 4))) tNil))))))) tNext)
    (tSeq (tAsg (tLst (tCons (tCB (rLstQ K) (tCons (tOp (rIx K) (tVar 0) (tC (.int 0))) tNil)) (tCons (tCB (rLstQ K) (tCons (tOp (rIx K) (tVar 0) (tC (.int 2))) tNil)) (tCons (tCB (rLstQ K) (tCons (tOp (rIx K) (tVar 0) (tC (.int 3))) tNil)) tNil)))) (gName 2))
    (tSeq (tAsg (tLc (iSeq K (tOp (rIx K) (tVar 0) (tC (.int 1)))) (gName 7) tYes (tLst (tCons (tOp (rIx K) (tVar 7) (tC (.int 0))) (tCons (tOp (rIx K) (tVar 7) (tC (.int 1))) (tCons (tCB (rLstQ K) (tCons (tOp (rIx K) (tVar 7) (tC (.int 2))) tNil)) (tCons (tCB (rLstQ K) (tCons (tOp (rIx K) (tVar 7) (tC (.int 3))) tNil)) tNil))))) [7]) (gName 3))
    (tSeq (tAsg (tLc (iSeq K (tOp (rIx K) (tVar 0) (tC (.int 4)))) (gName 8) tYes (tLst (tCons (tOp (rIx K) (tVar 8) (tC (.int 0))) (tCons (tCB (rLstQ K) (tCons (tOp (rIx K) (tVar 8) (tC (.int 1))) tNil)) tNil))) [8]) (gName 4))
    (tSeq (tAsg (tMake (He.ga K "Picture") (sp_Picture___init__ K) [] E0 (tCons (tOp (rIx K) (tVar 2) (tC (.int 0))) (tCons (tVar 3) (tCons (tOp (rIx K) (tVar 2) (tC (.int 1))) (tCons (tOp (rIx K) (tVar 2) (tC (.int 2))) (tCons (tVar 4) tNil)))))) (gName 5))
    (tSeq (tFor (iSeq K (tOp rCat (tOp rCat (tVar 2) (tLc (iSeq K (tVar 4)) (gName 8) tYes (tOp (rIx K) (tVar 8) (tC (.int 1))) [8])) (tLc (iSeq K (tVar 3)) (gName 7) tYes (tOp (rIx K) (tVar 7) (tC (.int 2))) [7]))) (gName 6) (tDrop (tBM K "list" rInsertQ (tVar 6) (tCons (tC (.int 0)) (tCons (tC (.int 2)) tNil)))))
    (tSeq (tDrop (tBM K "list" rAppend (tVar 3) (tCons (tLst (tCons (tC (.str "main")) (tCons (tC (.int 0)) (tCons (tLst (tCons (tC (.int 2)) tNil)) (tCons (tLst tNil) tNil))))) tNil)))
    (tSeq (tDrop (tBM K "list" rAppend (tVar 4) (tCons (tLst (tCons (tC (.str "b")) (tCons (tLst (tCons (tC (.int 2)) tNil)) tNil))) tNil)))
    (tRet (tVar 5))))))))))
noncomputable def t__law_stays (K : PySem.W.Frag) : TS :=
  (tRet (tAndV (tOp (rEqD K) (tFld K (tVar 0) "statics") (tOp (rIx K) (tVar 1) (tC (.int 0)))) (tAndV (tOp (rEqD K) (tFld K (tVar 0) "frames") (tOp (rIx K) (tVar 1) (tC (.int 1)))) (tAndV (tOp (rEqD K) (tFld K (tVar 0) "watched") (tOp (rIx K) (tVar 1) (tC (.int 2)))) (tAndV (tOp (rEqD K) (tFld K (tVar 0) "parted") (tOp (rIx K) (tVar 1) (tC (.int 3)))) (tOp (rEqD K) (tFld K (tVar 0) "objects") (tOp (rIx K) (tVar 1) (tC (.int 4)))))))))
noncomputable def t__law_linked (K : PySem.W.Frag) : TS :=
  (tSeq (tAsg (tCall (sp__law_root_rows K) [] E0 (tCons (tVar 0) tNil)) (gName 5))
    (tFor (iRng1 (tCons (tCB (rLenQ K) (tCons (tOp (rIx K) (tVar 0) (tC (.int 4))) tNil)) tNil)) (gName 6) (tSeq (tAsg (tOp rModI (tCB rIntQ (tCons (tOp (rIx K) (tOp (rIx K) (tVar 1) (tVar 6)) (tC (.int 0))) tNil)) (tOp rSubI (tOp rAddI (tVar 6) (tC (.int 1))) (tCB rIntQ (tCons (tAndV (tVar 3) (tOp rGtI (tVar 6) (tC (.int 0)))) tNil)))) (gName 7))
    (tSeq (tIfS (tAnd (tB (tVar 2)) (tTest (tOp rGtI (tVar 6) (tC (.int 0))))) (tAsg (tCB rMaxQ (tCons (tC (.int 0)) (tCons (tOp rSubI (tOp rSubI (tVar 6) (tC (.int 1))) (tOp rDivI (tOp rModI (tCB rIntQ (tCons (tOp (rIx K) (tOp (rIx K) (tVar 1) (tVar 6)) (tC (.int 0))) tNil)) (tC (.int 5))) (tC (.int 2)))) tNil))) (gName 7)) tNext)
    (tSeq (tIfS (tAnd (tB (tVar 4)) (tTest (tOp rGtI (tVar 6) (tC (.int 1))))) (tSeq (tAsg (tCB rMaxQ (tCons (tC (.int 0)) (tCons (tOp rSubI (tOp rSubI (tVar 6) (tC (.int 2))) (tOp rDivI (tOp rModI (tCB rIntQ (tCons (tOp (rIx K) (tOp (rIx K) (tVar 1) (tVar 6)) (tC (.int 0))) tNil)) (tC (.int 4))) (tC (.int 2)))) tNil))) (gName 7))
    (tSeq (tAsg (tOp (rIx K) (tOp (rIx K) (tOp (rIx K) (tVar 0) (tC (.int 4))) (tCB rMaxQ (tCons (tC (.int 0)) (tCons (tOp rSubI (tOp rSubI (tVar 6) (tC (.int 1))) (tOp rDivI (tOp rModI (tCB rIntQ (tCons (tOp (rIx K) (tOp (rIx K) (tVar 1) (tVar 6)) (tC (.int 2))) tNil)) (tC (.int 4))) (tC (.int 3)))) tNil)))) (tC (.int 1))) (gName 8))
    (tDrop (tBM K "list" rInsertQ (tVar 8) (tCons (tOp rModI (tOp rDivI (tCB rIntQ (tCons (tOp (rIx K) (tOp (rIx K) (tVar 1) (tVar 6)) (tC (.int 1))) tNil)) (tC (.int 2))) (tOp rAddI (tCB (rLenQ K) (tCons (tVar 8) tNil)) (tC (.int 1)))) (tCons (tOp rAddI (tOp rMulI (tC (.int 2)) (tVar 6)) (tC (.int 2))) tNil)))))) tNext)
    (tSeq (tIfS (tTest (tOp rEq (tVar 7) (tVar 6))) (tAsg (tOp (rIx K) (tVar 5) (tOp rModI (tCB rIntQ (tCons (tOp (rIx K) (tOp (rIx K) (tVar 1) (tVar 6)) (tC (.int 1))) tNil)) (tCB (rLenQ K) (tCons (tVar 5) tNil)))) (gName 8)) (tAsg (tOp (rIx K) (tOp (rIx K) (tOp (rIx K) (tVar 0) (tC (.int 4))) (tVar 7)) (tC (.int 1))) (gName 8)))
    (tSeq (tDrop (tBM K "list" rInsertQ (tVar 8) (tCons (tOp rModI (tOp rDivI (tCB rIntQ (tCons (tOp (rIx K) (tOp (rIx K) (tVar 1) (tVar 6)) (tC (.int 1))) tNil)) (tC (.int 8))) (tOp rAddI (tCB (rLenQ K) (tCons (tVar 8) tNil)) (tC (.int 1)))) (tCons (tOp rAddI (tOp rMulI (tC (.int 2)) (tVar 6)) (tC (.int 2))) tNil))))
    (tIfS (tAnd (tTest (tOp rGtI (tVar 6) (tC (.int 1)))) (tAnd (tTest (tOp rEq (tOp (rIx K) (tOp (rIx K) (tVar 1) (tVar 6)) (tC (.int 3))) (tC (.int 0)))) (tNot (tB (tVar 4))))) (tSeq (tAsg (tOp (rIx K) (tOp (rIx K) (tOp (rIx K) (tVar 0) (tC (.int 4))) (tOp rModI (tCB rIntQ (tCons (tOp (rIx K) (tOp (rIx K) (tVar 1) (tVar 6)) (tC (.int 2))) tNil)) (tVar 6))) (tC (.int 1))) (gName 8))
    (tDrop (tBM K "list" rInsertQ (tVar 8) (tCons (tOp rModI (tOp rDivI (tCB rIntQ (tCons (tOp (rIx K) (tOp (rIx K) (tVar 1) (tVar 6)) (tC (.int 1))) tNil)) (tC (.int 2))) (tOp rAddI (tCB (rLenQ K) (tCons (tVar 8) tNil)) (tC (.int 1)))) (tCons (tOp rAddI (tOp rMulI (tC (.int 2)) (tVar 6)) (tC (.int 2))) tNil))))) tNext))))))))
noncomputable def t__law_drawn (K : PySem.W.Frag) : TS :=
  (tSeq (tAsg (tCall (sp__law_digits K) [] E0 (tCons (tCall (sp__law_cell K) [] E0 (tCons (tVar 0) (tCons (tVar 1) tNil))) (tCons (tLst (tCons (tC (.int 13)) (tCons (tC (.int 8)) (tCons (tC (.int 3)) (tCons (tC (.int 4)) (tCons (tC (.int 6)) (tCons (tC (.int 3)) (tCons (tC (.int 3)) (tCons (tC (.int 8)) (tCons (tC (.int 64)) (tCons (tC (.int 64)) (tCons (tC (.int 16)) tNil)))))))))))) tNil))) (gName 2))
    (tSeq (tAsg (tOp (rIx K) (tLst (tCons (tC (.int 9)) (tCons (tC (.int 12)) (tCons (tC (.int 6)) (tCons (tC (.int 7)) (tCons (tC (.int 3)) (tCons (tC (.int 11)) (tCons (tC (.int 5)) (tCons (tC (.int 8)) (tCons (tC (.int 1)) (tCons (tC (.int 4)) (tCons (tC (.int 10)) (tCons (tC (.int 2)) (tCons (tC (.int 0)) tNil)))))))))))))) (tOp (rIx K) (tVar 2) (tC (.int 0)))) (gName 3))
    (tSeq (tIfS (tOr (tTest (tOp rEq (tOp (rIx K) (tVar 2) (tC (.int 1))) (tC (.int 7)))) (tAnd (tTest (tOp (rIn K false) (tOp (rIx K) (tVar 2) (tC (.int 1))) (tLst (tCons (tC (.int 5)) (tCons (tC (.int 6)) tNil))))) (tTest (tOp rGtI (tOp (rIx K) (tVar 2) (tC (.int 10))) (tC (.int 11)))))) (tAsg (tOp rAddI (tVar 3) (tC (.int 20))) (gName 3)) tNext)
    (tSeq (tAsg (tOp rEq (tOp (rIx K) (tVar 2) (tC (.int 1))) (tC (.int 0))) (gName 4))
    (tSeq (tAsg (tOp rGtI (tOp (rIx K) (tVar 2) (tC (.int 1))) (tC (.int 3))) (gName 5))
    (tSeq (tAsg (tOp (rIx K) (tLst (tCons (tC (.int 1)) (tCons (tC (.int 2)) (tCons (tC (.int 4)) tNil)))) (tOp (rIx K) (tVar 2) (tC (.int 2)))) (gName 6))
    (tSeq (tAsg (tOp (rIx K) (tLst (tCons (tC (.int 1)) (tCons (tC (.int 3)) (tCons (tC (.int 0)) tNil)))) (tOp rAddI (tCB rIntQ (tCons (tVar 4) tNil)) (tOp rMulI (tC (.int 2)) (tCB rIntQ (tCons (tVar 5) tNil))))) (gName 7))
    (tSeq (tAsg (tLst (tCons (tC (.str "node")) (tCons (tC (.str "b")) (tCons (tC (.str "row7")) (tCons (tC (.str "weakcell")) (tCons (tC (.str "pairs")) (tCons (tC (.str "z9")) tNil))))))) (gName 8))
    (tSeq (tAsg (tLst tNil) (gName 9))
    (tSeq (tAsg (tLst tNil) (gName 10))
    (tSeq (tFor (iRng1 (tCons (tVar 3) tNil)) (gName 11) (tSeq (tAsg (tCall (sp__law_digits K) [] E0 (tCons (tCall (sp__law_cell K) [] E0 (tCons (tVar 0) (tCons (tOp rAddI (tOp rAddI (tVar 1) (tC (.int 1))) (tVar 11)) tNil))) (tCons (tOp rCat (tLst (tCons (tC (.int 6)) (tCons (tC (.int 5)) (tCons (tC (.int 64)) (tCons (tC (.int 4096)) (tCons (tC (.int 64)) (tCons (tC (.int 2)) tNil))))))) (tOp rRep (tLst (tCons (tC (.int 8)) (tCons (tC (.int 64)) (tCons (tC (.int 4294967296)) tNil)))) (tC (.int 4)))) tNil))) (gName 12))
    (tSeq (tDrop (tBM K "list" rAppend (tVar 9) (tCons (tLst (tCons (tOp (rIx K) (tVar 8) (tOp (rIx K) (tVar 12) (tC (.int 0)))) (tCons (tCall (sp__law_words K) [] E0 (tCons (tVar 12) (tCons (tC (.int 6)) (tCons (tOp (rIx K) (tVar 12) (tC (.int 1))) (tCons (tVar 3) (tCons (tOp (rIx K) (tLst (tCons (tVar 6) (tCons (tC (.int 1)) tNil))) (tCB rIntQ (tCons (tVar 5) tNil))) tNil)))))) tNil))) tNil)))
    (tDrop (tBM K "list" rAppend (tVar 10) (tCons (tSl (rSlL K) (tVar 12) (tPart (tC (.int 2))) (tPart (tC (.int 6)))) tNil))))))
    (tSeq (tAsg (tCall (sp__law_digits K) [] E0 (tCons (tCall (sp__law_cell K) [] E0 (tCons (tVar 0) (tCons (tOp rAddI (tVar 1) (tC (.int 33))) tNil))) (tCons (tOp rRep (tLst (tCons (tC (.int 8)) (tCons (tC (.int 64)) (tCons (tC (.int 4294967296)) tNil)))) (tC (.int 3))) tNil))) (gName 12))
    (tSeq (tAsg (tCall (sp__law_words K) [] E0 (tCons (tVar 12) (tCons (tC (.int 0)) (tCons (tOp (rIx K) (tVar 2) (tC (.int 3))) (tCons (tVar 3) (tCons (tVar 7) tNil)))))) (gName 13))
    (tSeq (tAsg (tLst tNil) (gName 14))
    (tSeq (tFor (iRng1 (tCons (tOp (rIx K) (tLst (tCons (tC (.int 2)) (tCons (tC (.int 1)) (tCons (tC (.int 0)) (tCons (tC (.int 3)) (tCons (tC (.int 5)) (tCons (tC (.int 1)) tNil))))))) (tOp (rIx K) (tVar 2) (tC (.int 4)))) tNil)) (gName 11) (tSeq (tAsg (tCall (sp__law_digits K) [] E0 (tCons (tCall (sp__law_cell K) [] E0 (tCons (tVar 0) (tCons (tOp rAddI (tOp rAddI (tVar 1) (tC (.int 34))) (tVar 11)) tNil))) (tCons (tOp rCat (tLst (tCons (tC (.int 4)) (tCons (tC (.int 200)) (tCons (tC (.int 4)) (tCons (tC (.int 3)) tNil))))) (tOp rRep (tLst (tCons (tC (.int 8)) (tCons (tC (.int 64)) (tCons (tC (.int 4294967296)) tNil)))) (tC (.int 5)))) tNil))) (gName 12))
    (tSeq (tAsg (tCall (sp__law_words K) [] E0 (tCons (tVar 12) (tCons (tC (.int 4)) (tCons (tOp (rIx K) (tVar 12) (tC (.int 2))) (tCons (tVar 3) (tCons (tVar 7) tNil)))))) (gName 15))
    (tSeq (tAsg (tCall (sp__law_words K) [] E0 (tCons (tVar 12) (tCons (tC (.int 13)) (tCons (tOp (rIx K) (tVar 12) (tC (.int 3))) (tCons (tVar 3) (tCons (tVar 7) tNil)))))) (gName 16))
    (tDrop (tBM K "list" rAppend (tVar 14) (tCons (tLst (tCons (tOp (rIx K) (tLst (tCons (tC (.str "main")) (tCons (tC (.str "grow")) (tCons (tC (.str "f")) (tCons (tC (.str "work2")) tNil))))) (tOp (rIx K) (tVar 12) (tC (.int 0)))) (tCons (tOp (rIx K) (tVar 12) (tC (.int 1))) (tCons (tVar 15) (tCons (tVar 16) tNil))))) tNil)))))))
    (tSeq (tIfS (tTest (tOp rLtI (tOp (rIx K) (tVar 2) (tC (.int 10))) (tC (.int 2)))) (tAsg (tLc (iSeq K (tOp rRep (tVar 14) (tC (.int 8)))) (gName 20) tYes (tLst (tCons (tOp (rIx K) (tVar 20) (tC (.int 0))) (tCons (tOp (rIx K) (tVar 20) (tC (.int 1))) (tCons (tCB (rLstQ K) (tCons (tOp (rIx K) (tVar 20) (tC (.int 2))) tNil)) (tCons (tCB (rLstQ K) (tCons (tOp (rIx K) (tVar 20) (tC (.int 3))) tNil)) tNil))))) [20]) (gName 14)) tNext)
    (tSeq (tAsg (tCall (sp__law_digits K) [] E0 (tCons (tCall (sp__law_cell K) [] E0 (tCons (tVar 0) (tCons (tOp rAddI (tVar 1) (tC (.int 39))) tNil))) (tCons (tOp rRep (tLst (tCons (tC (.int 64)) tNil)) (tC (.int 4))) tNil))) (gName 12))
    (tSeq (tAsg (tVar 3) (gName 17))
    (tSeq (tIfS (tAnd (tB (tVar 5)) (tTest (tOp rLtI (tOp (rIx K) (tVar 2) (tC (.int 1))) (tC (.int 6))))) (tAsg (tCB rMinQ (tCons (tC (.int 1)) (tCons (tVar 3) tNil))) (gName 17)) tNext)
    (tSeq (tAsg (tLst (tCons (tLc (iRng1 (tCons (tOp (rIx K) (tVar 2) (tC (.int 5))) tNil)) (gName 11) (tTest (tOp rGtI (tVar 17) (tC (.int 0)))) (tOp rAddI (tOp rMulI (tC (.int 2)) (tOp rModI (tCB rIntQ (tCons (tOp (rIx K) (tVar 12) (tVar 11)) tNil)) (tVar 17))) (tC (.int 2))) [11]) (tCons (tLc (iRng1 (tCons (tOp (rIx K) (tVar 2) (tC (.int 6))) tNil)) (gName 11) (tTest (tOp rGtI (tVar 17) (tC (.int 0)))) (tOp rAddI (tOp rMulI (tC (.int 2)) (tOp rModI (tCB rIntQ (tCons (tOp (rIx K) (tVar 12) (tOp rAddI (tC (.int 2)) (tVar 11))) tNil)) (tVar 17))) (tC (.int 2))) [11]) tNil))) (gName 18))
    (tSeq (tAsg (tLst (tCons (tVar 13) (tCons (tVar 14) (tCons (tOp (rIx K) (tVar 18) (tC (.int 0))) (tCons (tOp (rIx K) (tVar 18) (tC (.int 1))) (tCons (tVar 9) tNil)))))) (gName 19))
    (tSeq (tIfS (tNot (tB (tVar 4))) (tDrop (tCall (sp__law_linked K) [] E0 (tCons (tVar 19) (tCons (tVar 10) (tCons (tOp (rIn K false) (tOp (rIx K) (tVar 2) (tC (.int 1))) (tLst (tCons (tC (.int 3)) (tCons (tC (.int 5)) (tCons (tC (.int 7)) tNil))))) (tCons (tVar 5) (tCons (tOp (rIn K false) (tOp (rIx K) (tVar 2) (tC (.int 1))) (tLst (tCons (tC (.int 2)) (tCons (tC (.int 5)) (tCons (tC (.int 6)) tNil))))) tNil))))))) tNext)
    (tSeq (tDrop (tCall (sp__law_padded K) [] E0 (tCons (tVar 19) (tCons (tSl (rSlL K) (tVar 2) (tPart (tC (.int 7))) tNoPart) tNil))))
    (tRet (tCall (sp__law_numbered K) [] E0 (tCons (tVar 19) tNil))))))))))))))))))))))))))
/-! ### the readings follow from the promises: the program's defs -/
theorem refOf_dec (n : Int) : (refOf n).isSome = (decide (n % 2 = 0) && !decide (n = 0)) := by
  unfold refOf
  by_cases h : n % 2 = 0
  · by_cases z : n = 0
    · rw [if_neg (by omega), decide_eq_true h, decide_eq_true z]
      rfl
    · rw [if_pos ⟨h, z⟩, decide_eq_true h, decide_eq_false z]
      rfl
  · rw [if_neg (by omega), decide_eq_false h]
    rfl
theorem len_is_reference (K : PySem.W.Frag) (vs : List V) (H : Hp) (Q : VK) (E : XK) (h : sp_is_reference K vs H Q E) : vs.length = (["word"] : List Str).length := by
  obtain ⟨n, rfl, _⟩ := h
  rfl
theorem pure_is_reference (K : PySem.W.Frag) (vs : List V) (H : Hp) (Q : VK) (E : XK) (h : sp_is_reference K vs H Q E) : t_is_reference K { nx := fun _ H' => Q .non H', rt := Q } (start ["word"] vs) H := by
  obtain ⟨n, rfl, q⟩ := h
  rw [refOf_dec] at q
  unfold t_is_reference
  wtm_at "gs"
  refine itd (fun e => ?_) (fun e => ?_)
  · wtm_at "gs"
    rw [decide_eq_true e] at q
    exact q
  · rw [decide_eq_false e] at q
    exact q
theorem len_address_of (K : PySem.W.Frag) (vs : List V) (H : Hp) (Q : VK) (E : XK) (h : sp_address_of K vs H Q E) : vs.length = (["word"] : List Str).length := by
  obtain ⟨n, rfl, _⟩ := h
  rfl
theorem pure_address_of (K : PySem.W.Frag) (vs : List V) (H : Hp) (Q : VK) (E : XK) (h : sp_address_of K vs H Q E) : t_address_of K { nx := fun _ H' => Q .non H', rt := Q } (start ["word"] vs) H := by
  obtain ⟨n, rfl, q⟩ := h
  unfold t_address_of
  wtm_at "gs"
  exact q
theorem len_target_at (K : PySem.W.Frag) (vs : List V) (H : Hp) (Q : VK) (E : XK) (h : sp_target_at K vs H Q E) : vs.length = (["words", "position"] : List Str).length := by
  obtain ⟨a, ws, k, w, rfl, _⟩ := h
  rfl
theorem pure_target_at (K : PySem.W.Frag) (vs : List V) (H : Hp) (Q : VK) (E : XK) (h : sp_target_at K vs H Q E) : t_target_at K { nx := fun _ H' => Q .non H', rt := Q } (start ["words", "position"] vs) H := by
  obtain ⟨a, ws, k, w, rfl, hS, hw, q⟩ := h
  have hk : k < ws.length := (List.getElem?_eq_some_iff.mp hw).1
  unfold t_target_at
  wtm_at "gs"
  refine itdP (by omega) ?_
  wtm_at "gs"
  refine w_len hS ?_
  wtm_at "gs"
  rw [iv_len, decide_eq_true (by omega)]
  refine iteF ?_
  wtm_at "gs"
  refine w_ixn hS (iv_get hw) ?_
  wtm_at "gs"
  refine ⟨w, rfl, ?_⟩
  wtm_at "gs"
  cases e : refOf w with
  | none =>
    rw [e] at q
    wtm_at "gs"
    exact q
  | some j =>
    rw [e] at q
    refine iteF ?_
    wtm_at "gs"
    refine w_ixn hS (iv_get hw) ?_
    wtm_at "gs"
    refine ⟨w, rfl, ?_⟩
    wtm_at "gs"
    have ej : w / 2 - 1 = j := by
      unfold refOf at e
      split at e
      · exact Option.some.inj e
      · cases e
    rw [ej]
    exact q
theorem len_targets (K : PySem.W.Frag) (vs : List V) (H : Hp) (Q : VK) (E : XK) (h : sp_targets K vs H Q E) : vs.length = (["words"] : List Str).length := by
  obtain ⟨a, ws, rfl, _⟩ := h
  rfl
theorem filterMap_one {α β : Type} (f : α → Option β) (i : α) : [i].filterMap f = (f i).toList := by
  cases e : f i with
  | none => simp only [List.filterMap_cons, e, List.filterMap_nil, Option.toList_none]
  | some x => simp only [List.filterMap_cons, e, List.filterMap_nil, Option.toList_some]
theorem tgts_take {ws : List Int} (i : Nat) : ((List.range (i + 1)).filterMap fun (i : Nat) => ((ws[i]?).bind refOf).map fun n => ((i : Int), n)) =
    ((List.range i).filterMap fun (i : Nat) => ((ws[i]?).bind refOf).map fun n => ((i : Int), n)) ++ ((((ws[i]?).bind refOf).map fun n => ((i : Int), n)).toList) := by
  rw [List.range_succ, List.filterMap_append, filterMap_one]
theorem tgts_le (ws : List Int) (i : Nat) : ((List.range i).filterMap fun (i : Nat) => ((ws[i]?).bind refOf).map fun n => ((i : Int), n)).length ≤ i := by
  have h := List.length_filterMap_le (fun (i : Nat) => ((ws[i]?).bind refOf).map fun n => ((i : Int), n)) (List.range i)
  rw [List.length_range] at h
  exact h
theorem pairAt_same {H H' : Hp} (s : Same H H') (v : V) (p : Int × Int) (h : PairAt H v p) : PairAt H' v p := by
  obtain ⟨a, e, h⟩ := h
  exact ⟨a, e, s _ _ h⟩
theorem pure_targets (K : PySem.W.Frag) (vs : List V) (H : Hp) (Q : VK) (E : XK) (h : sp_targets K vs H Q E) : t_targets K { nx := fun _ H' => Q .non H', rt := Q } (start ["words", "told", "position", "number"] vs) H := by
  obtain ⟨a, ws, rfl, hS, hl, q⟩ := h
  unfold t_targets
  wtm_at "gs"
  refine newL (by decide) fun l H1 nl s1 hl1 => ?_
  wtm_at "gs"
  refine w_len (hS.same s1) ?_
  wtm_at "gs"
  rw [iv_len]
  refine f_rng (by omega) (fun i σ' H' => ∃ y z xs, σ' = [some (.ref a), some (.ref l), y, z] ∧ Same H H' ∧ H' l = some (.lst xs) ∧ Paired (PairAt H') xs ((List.range i).filterMap fun (i : Nat) => ((ws[i]?).bind refOf).map fun n => ((i : Int), n)))
    ⟨none, none, [], rfl, s1, hl1, .nil⟩ ?_ ?_
  · rintro i σ' H' hi ⟨y, z, xs, rfl, s, hL, hP⟩
    obtain ⟨w, hw⟩ : ∃ w, ws[i]? = some w := ⟨_, List.getElem?_eq_getElem (by omega)⟩
    wtm_at "gs"
    refine ⟨a, ws, i, w, rfl, hS.same s, hw, ?_⟩
    wtm_at "gs"
    cases e : refOf w with
    | none =>
      refine iteF ?_
      wtm_at "gs"
      refine ⟨_, _, xs, rfl, s, hL, ?_⟩
      rw [tgts_take, hw]
      show Paired (PairAt H') xs (_ ++ (((some w).bind refOf).map fun n => ((i : Int), n)).toList)
      rw [Option.bind_some, e]
      simpa using hP
    | some j =>
      refine iteT ?_
      wtm_at "gs"
      refine ⟨tyL hL, ?_⟩
      wtm_at "gs"
      refine newT (by simp) fun t H2 nt s2 ht => ?_
      wtm_at "gs"
      refine w_append (s2 _ _ hL) ?_ ?_
      · have h1 := hP.length
        have h2 := tgts_le ws i
        omega
      · refine ⟨_, _, xs ++ [.ref t], rfl, same_mut (s.trans s2) nl, upd_same, ?_⟩
        rw [tgts_take, hw]
        show Paired _ _ (_ ++ (((some w).bind refOf).map fun n => ((i : Int), n)).toList)
        rw [Option.bind_some, e]
        have up : ∀ b v, b ≠ l → H2 b = some v → (upd H2 l (.lst (xs ++ [.ref t]))) b = some v := fun b v n e => get_ne e n
        have nTl : t ≠ l := fun z => by
          rw [z, hL] at nt
          cases nt
        refine papp (Paired.mapP hP fun v p hp => ?_) (.cons ⟨t, rfl, up _ _ nTl ht⟩ .nil)
        obtain ⟨b, eb, hb⟩ := hp
        refine ⟨b, eb, up _ _ (fun z => ?_) (s2 _ _ hb)⟩
        rw [z, hL] at hb
        cases hb
  · rintro σ' H' ⟨y, z, xs, rfl, s, hL, hP⟩
    wtm_at "gs"
    have e : (ws.length : Int).toNat = ws.length := by omega
    rw [e] at hP
    exact q _ _ xs s nl hL hP
/-! ### .. what is met, pictures -/
theorem meetN_snoc (bar : Int → Bool) (L ns : List Int) (n : Int) : meetN bar L (ns ++ [n]) = meet1 bar (meetN bar L ns) n := by
  unfold meetN
  rw [List.foldl_append]
  rfl
theorem meet1_len (bar : Int → Bool) (L : List Int) (n : Int) : (meet1 bar L n).length ≤ L.length + 1 ∧ L.length ≤ (meet1 bar L n).length := by
  unfold meet1
  split
  · omega
  · rw [List.length_append]
    exact ⟨Nat.le_refl _, Nat.le_add_right _ _⟩
theorem meetN_len (bar : Int → Bool) (ns : List Int) : ∀ L : List Int, (meetN bar L ns).length ≤ L.length + ns.length ∧ L.length ≤ (meetN bar L ns).length := by
  induction ns with
  | nil => exact fun L => ⟨Nat.le_refl _, Nat.le_refl _⟩
  | cons n ns ih =>
    intro L
    have h1 := ih (meet1 bar L n)
    have h2 := meet1_len bar L n
    have e : meetN bar L (n :: ns) = meetN bar (meet1 bar L n) ns := rfl
    rw [e, List.length_cons]
    omega
theorem len_meet (K : PySem.W.Frag) (vs : List V) (H : Hp) (Q : VK) (E : XK) (h : sp_meet K vs H Q E) : vs.length = (["found", "order", "known"] : List Str).length := by
  obtain ⟨f, o, d, xs, ns, L, F, n, bar, rfl, _⟩ := h
  rfl
theorem take_get {α : Type} {l : List α} {i : Nat} {x : α} (h : l[i]? = some x) : l.take (i + 1) = l.take i ++ [x] := by
  rw [List.take_add_one, h]
  rfl
theorem pure_meet (K : PySem.W.Frag) (vs : List V) (H : Hp) (Q : VK) (E : XK) (h : sp_meet K vs H Q E) : t_meet K { nx := fun _ H' => Q .non H', rt := Q } (start ["found", "order", "known", "_", "number"] vs) H := by
  obtain ⟨f, o, d, xs, ns, L, F, n, bar, rfl, hf, hP, nfo, ho, hd, hk, hl, q⟩ := h
  have nfd : f ≠ d := fun z => by
    obtain ⟨kvs, e, _⟩ := hd
    rw [z, e] at hf
    cases hf
  have nod : o ≠ d := fun z => by
    obtain ⟨kvs, e, _⟩ := hd
    rw [z, e] at ho
    cases ho
  unfold t_meet
  wtm_at "gs"
  refine f_seq (.l hf) (fun i σ' H' => ∃ y z F', σ' = [some (.ref f), some (.ref o), some (.ref d), y, z] ∧ (∀ b, b ≠ o → b ≠ d → H' b = H b) ∧ H' o = some (.lst (iv (meetN bar L ((ns.take i).map (·.2))))) ∧ IDict H' d F' (n + (meetN bar L ((ns.take i).map (·.2))).length) ∧
      (∀ k, (F' k).isSome = (bar k || decide (k ∈ meetN bar L ((ns.take i).map (·.2)))))) ⟨none, none, F, rfl, fun _ _ _ => rfl, ho, hd, hk⟩ ?_ ?_ ?_
  · rintro i σ' H' ⟨y, z, F', rfl, fr, _⟩
    exact stays_eq (fr f nfo nfd)
  · rintro i x σ' H' hx ⟨y, z, F', rfl, fr, hO, hD, hK⟩
    obtain ⟨⟨p1, p2⟩, hp, a, rfl, ha⟩ := pgetL hP hx
    have hi : i < ns.length := (List.getElem?_eq_some_iff.mp hp).1
    have nao : a ≠ o := ne_of ha ho (by intro z; cases z)
    have nad : a ≠ d := fun z => by
      obtain ⟨kvs, e, _⟩ := hd
      rw [z, e] at ha
      cases ha
    refine w_gsq (.t ((fr a nao nad).trans ha)) rfl ?_
    wtm_at "gs"
    refine ⟨d, _, rfl, hD.get p2, ?_⟩
    wtm_at "gs"
    have es : (ns.take (i + 1)).map (·.2) = (ns.take i).map (·.2) ++ [p2] := by
      rw [take_get hp, List.map_append]
      rfl
    have hlen := (meetN_len bar ((ns.take i).map (·.2)) L).1
    rw [List.length_map, List.length_take] at hlen
    refine itnb (fun e => ?_) (fun e => ?_)
    · rw [hK p2] at e
      have e1 : bar p2 = false := by
        cases q : bar p2 with
        | false => rfl
        | true =>
          rw [q] at e
          cases e
      have e2 : ¬ p2 ∈ meetN bar L ((ns.take i).map (·.2)) := fun m => by
        rw [decide_eq_true m, Bool.or_true] at e
        cases e
      have em : meetN bar L ((ns.take (i + 1)).map (·.2)) = meetN bar L ((ns.take i).map (·.2)) ++ [p2] := by
        rw [es, meetN_snoc]
        unfold meet1
        rw [if_neg]
        rintro (z | z)
        · rw [e1] at z
          cases z
        · exact e2 z
      wtm_at "gs"
      obtain ⟨od, dp, hD2, kvs, rfl⟩ := hD.put (by omega) p2 (.bl true)
      refine ⟨d, _, rfl, dp, ?_⟩
      wtm_at "gs"
      refine ⟨tyL (get_ne hO nod), ?_⟩
      wtm_at "gs"
      refine w_append (get_ne hO nod) ?_ ?_
      · rw [iv_len]
        omega
      · refine ⟨_, _, fput F' p2 (.bl true), rfl, fun b h1 h2 => ?_, ?_, ?_, fun k => ?_⟩
        · rw [upd_ne h1, upd_ne h2]
          exact fr b h1 h2
        · rw [upd_same, em, iv_app]
          rfl
        · rw [em, List.length_append]
          exact hD2 _ (get_ne upd_same nod.symm)
        · rw [em]
          unfold fput
          by_cases z : k = p2
          · subst z
            rw [if_pos rfl, decide_eq_true (List.mem_append.mpr (.inr List.mem_cons_self)), Bool.or_true]
            rfl
          · rw [if_neg z, hK k]
            congr 1
            refine decide_eq_decide.mpr ⟨fun m => List.mem_append.mpr (.inl m), fun m => ?_⟩
            rcases List.mem_append.mp m with m | m
            · exact m
            · exact absurd (List.mem_singleton.mp m) z
    · have em : meetN bar L ((ns.take (i + 1)).map (·.2)) = meetN bar L ((ns.take i).map (·.2)) := by
        rw [es, meetN_snoc]
        unfold meet1
        rw [if_pos]
        rw [hK p2, Bool.or_eq_true] at e
        rcases e with e | e
        · exact .inl e
        · exact .inr (of_decide_eq_true e)
      wtm_at "gs"
      refine ⟨_, _, F', rfl, fr, ?_, ?_, ?_⟩
      · rw [em]
        exact hO
      · rw [em]
        exact hD
      · rw [em]
        exact hK
  · rintro σ' H' ⟨y, z, F', rfl, fr, hO, hD, hK⟩
    have el : xs.length = ns.length := hP.length
    have et : ns.take xs.length = ns := List.take_of_length_le (by omega)
    rw [et] at hO hK hD
    exact q H' F' fr hO hD hK
/-! ### .. making a picture, its rows -/
theorem kept {D : Addr} {Nx : Hp → Prop} {y : V} {H4 : Hp} {acc : List V} (h : H4 D = some (.lst acc)) (hl : acc.length < 10000000) (q : Nx (upd H4 D (.lst (acc ++ [y])))) : Kept D Nx y H4 := ⟨acc, h, Nat.lt_of_lt_of_le hl (by decide), q⟩
/-- all but p -/
def SameX (p : Addr) (H H' : Hp) : Prop := ∀ b o, b ≠ p → H b = some o → H' b = some o
theorem SameX.of {p : Addr} {H H' : Hp} (s : Same H H') : SameX p H H' := fun b o _ e => s b o e
theorem SameX.trans {p : Addr} {H H1 H2 : Hp} (a : SameX p H H1) (b : SameX p H1 H2) : SameX p H H2 := fun c o n e => b c o n (a c o n e)
theorem SameX.put {p : Addr} {H : Hp} {o : HO} : SameX p H (upd H p o) := fun b u n e => get_ne e n
theorem rd_x {K : PySem.W.Frag} {p : Addr} {H H' : Hp} {C dx : Addr} {fs : List (Str × V)} (hp : H p = some (.ins C dx fs)) (s : SameX p H H') {a : Addr} {u : HO} (hu : ∀ C dx fs, u ≠ .ins C dx fs) (h : Rd H a u) : Rd H' a u := by
  rcases h with h | ⟨o, h⟩
  · exact .inl (s _ _ (fun z => by subst z; rw [hp] at h; exact hu _ _ _ (Option.some.inj h).symm) h)
  · exact .inr ⟨o, s _ _ (fun z => by subst z; rw [hp] at h; cases h) h⟩
theorem sqt_x {K : PySem.W.Frag} {p : Addr} {H H' : Hp} {C dx : Addr} {fs : List (Str × V)} (hp : H p = some (.ins C dx fs)) (s : SameX p H H') : ∀ a xs, ST K H a xs → ST K H' a xs := fun a xs h => by
  rcases h with h | h
  · exact .inl (rd_x (K := K) hp s (by intro _ _ _ z; cases z) h)
  · exact .inr h
theorem sq_x {K : PySem.W.Frag} {p : Addr} {H H' : Hp} {C dx : Addr} {fs : List (Str × V)} (hp : H p = some (.ins C dx fs)) (s : SameX p H H') : ∀ a xs, SQ K H a xs → SQ K H' a xs := fun a xs h => by
  rcases h with h | h
  · rcases h with h | h
    · exact .inl (.inl (rd_x (K := K) hp s (by intro _ _ _ z; cases z) h))
    · exact .inl (.inr h)
  · exact .inr (sqt_x hp s _ _ h)
theorem sq_stays {K : PySem.W.Frag} {H H' : Hp} {a : Addr} {xs : List V} (s : ∀ b o, H b = some o → b = a → H' b = some o) : Stays K a xs H H' := by
  have rd : ∀ u, Rd H a u → Rd H' a u := fun u h => by
    rcases h with h | ⟨o, h⟩
    · exact .inl (s _ _ h rfl)
    · exact .inr ⟨o, s _ _ h rfl⟩
  exact ⟨fun h => h.elim (fun h => .inl (rd _ h)) .inr, fun h => h.elim (fun h => .inl (rd _ h)) .inr⟩
/-- what is put into the instance -/
theorem lk_ne {f g : Str} {v : V} {fs : List (Str × V)} (h : ¬ g = f) : (putF f v fs).lookup g = fs.lookup g := by rw [lookup_putF, if_neg h]
theorem lk_eq {f : Str} {v : V} {fs : List (Str × V)} : (putF f v fs).lookup f = some v := by rw [lookup_putF, if_pos rfl]
theorem sf_ : ¬ ("statics" : Str) = "frames" := by decide +kernel
theorem sw_ : ¬ ("statics" : Str) = "watched" := by decide +kernel
theorem sp_ : ¬ ("statics" : Str) = "parted" := by decide +kernel
theorem so_ : ¬ ("statics" : Str) = "objects" := by decide +kernel
theorem fw_ : ¬ ("frames" : Str) = "watched" := by decide +kernel
theorem fp_ : ¬ ("frames" : Str) = "parted" := by decide +kernel
theorem fo_ : ¬ ("frames" : Str) = "objects" := by decide +kernel
theorem wp_ : ¬ ("watched" : Str) = "parted" := by decide +kernel
theorem wo_ : ¬ ("watched" : Str) = "objects" := by decide +kernel
theorem po_ : ¬ ("parted" : Str) = "objects" := by decide +kernel
theorem rs_ : ¬ ("rows" : Str) = "statics" := by decide +kernel
theorem rf_ : ¬ ("rows" : Str) = "frames" := by decide +kernel
theorem rw_ : ¬ ("rows" : Str) = "watched" := by decide +kernel
theorem rp_ : ¬ ("rows" : Str) = "parted" := by decide +kernel
theorem ro_ : ¬ ("rows" : Str) = "objects" := by decide +kernel
theorem len_Picture___init__ (K : PySem.W.Frag) (vs : List V) (H : Hp) (Q : VK) (E : XK) (h : sp_Picture___init__ K vs H Q E) : vs.length = (["self", "statics", "frames", "watched", "parted", "objects"] : List Str).length := by
  obtain ⟨p, dx, x0, x1, x2, x3, x4, P, n, B, pf, rfl, _⟩ := h
  rfl
theorem putF_small {f : Str} {v : V} {fs : List (Str × V)} {n : Nat} (h : fs.length ≤ n) : (putF f v fs).length ≤ n + 1 := Nat.le_trans (length_putF f v fs) (by omega)
theorem pure_Picture___init__ (K : PySem.W.Frag) (vs : List V) (H : Hp) (Q : VK) (E : XK) (h : sp_Picture___init__ K vs H Q E) : t_Picture___init__ K { nx := fun _ H' => Q .non H', rt := Q } (start ["self", "statics", "frames", "watched", "parted", "objects", "name", "place", "slots", "stack", "payload"] vs) H := by
  obtain ⟨p, dx, x0, x1, x2, x3, x4, P, n, B, pf, rfl, hp, h0, h1, h2, h3, h4, hF, hO, q⟩ := h
  unfold t_Picture___init__
  wtm_at "gs"
  -- statics
  obtain ⟨a0, rfl, g0⟩ := h0
  refine w_tuple g0 fun t0 H1 s1 k0 => ?_
  wtm_at "gs"
  have hp1 := s1 _ _ hp
  refine ⟨p, PC K, dx, [], rfl, hp1, pf.cl, pf.n0, by decide, ?_⟩
  wtm_at "gs"
  have sx1 : SameX p H (upd H1 p (.ins (PC K) dx (putF "statics" (.ref t0) []))) := (SameX.of s1).trans .put
  have hp2 : (upd H1 p (.ins (PC K) dx (putF "statics" (.ref t0) []))) p = some (.ins (PC K) dx (putF "statics" (.ref t0) [])) := upd_same
  have w0 : RI (ST K (upd H1 p (.ins (PC K) dx (putF "statics" (.ref t0) [])))) (.ref t0) P.statics := ⟨t0, rfl, sqt_x hp1 .put _ _ k0⟩
  generalize upd H1 p (.ins (PC K) dx (putF "statics" (.ref t0) [])) = H2 at sx1 hp2 w0 ⊢
  have l2 : (putF ("statics" : Str) (.ref t0) []).length ≤ 1 := putF_small (Nat.le_refl 0)
  -- frames
  obtain ⟨a1, ys1, rfl, g1, pf1⟩ := h1
  have g1' := sq_x hp sx1 _ _ g1
  refine l_seq g1' (fun D i H' => SameX D H2 H' ∧ ∃ ys, H' D = some (.lst ys) ∧ Paired (RF (ST K H')) ys (P.frames.take i)) (fun D nD => ⟨fun b o _ e => get_ne e (ne_of_none e nD), [], upd_same, .nil⟩) (fun D i H' nD hP => sq_stays fun b o e z => hP.1 b o (ne_of_none e nD) e) ?_ ?_
  · rintro D i x H' nD hx ⟨sD, ys, hD, hY⟩
    obtain ⟨f, hf, a, xs, ys', rfl, ha, ⟨b, rfl, hb⟩, ⟨c, rfl, hc⟩⟩ := pgetL pf1 hx
    have mv : ∀ {a : Addr} {xs : List V}, SQ K H a xs → SQ K H' a xs := fun {a xs} h => by
      have h := sq_x hp sx1 _ _ h
      have z : Stays K a xs H2 H' := sq_stays fun b o e _ => sD b o (ne_of_none e nD) e
      exact h.elim (fun h => .inl (z.1 h)) fun h => .inr (z.2 h)
    refine w_gsq (mv ha) rfl ?_
    wtm_at "gs"
    refine ⟨rfl, ?_⟩
    wtm_at "gs"
    refine w_tuple (mv hb) fun tb H3 s3 kb => ?_
    wtm_at "gs"
    refine w_tuple ((mv hc).same s3) fun tc H4 s4 kc => ?_
    wtm_at "gs"
    refine newT (by simp) fun t H5 nt s5 ht => ?_
    have hD5 : H5 D = some (.lst ys) := s5 _ _ (s4 _ _ (s3 _ _ hD))
    have el : ys.length ≤ 100000 := by
      rw [hY.length, List.length_take]
      omega
    refine kept hD5 (by omega) ⟨fun b o n e => get_ne (s5 _ _ (s4 _ _ (s3 _ _ (sD _ _ n e)))) n, _, upd_same, ?_⟩
    rw [take_get hf]
    have m5 := st_upd (K := K) (ys := ys ++ [.ref t]) hD5
    refine papp (Paired.mapP hY fun _ _ z => z.mono fun a xs z => m5 _ _ (st_m s5 _ _ (st_m s4 _ _ (st_m s3 _ _ z)))) (.cons ⟨t, .ref tb, .ref tc, rfl, m5 _ _ (.of ht), ⟨tb, rfl, m5 _ _ (st_m s5 _ _ (st_m s4 _ _ kb))⟩, ⟨tc, rfl, m5 _ _ (st_m s5 _ _ kc)⟩⟩ .nil)
  rintro D H3 nD ⟨sD, ys, hD, hY⟩
  rw [show ys1.length = P.frames.length from pf1.length, List.take_length] at hY
  wtm_at "gs"
  refine w_tuple (.l hD) fun t1 H4 s4 k1 => ?_
  wtm_at "gs"
  have s24 : Same H2 H4 := fun b o e => s4 _ _ (sD _ _ (ne_of_none e nD) e)
  have hp4 := s24 _ _ hp2
  refine ⟨p, PC K, dx, _, rfl, hp4, pf.cl, pf.n1, by omega, ?_⟩
  wtm_at "gs"
  have hY4 : RFs (ST K H4) (.ref t1) P.frames := ⟨t1, ys, rfl, k1, Paired.mapP hY fun _ _ z => z.mono (st_m s4)⟩
  have sx2 : SameX p H (upd H4 p (.ins (PC K) dx (putF "frames" (.ref t1) (putF "statics" (.ref t0) [])))) := sx1.trans ((SameX.of s24).trans .put)
  have w0' := (w0.mono (st_m s24)).mono (sqt_x (H' := upd H4 p (.ins (PC K) dx (putF "frames" (.ref t1) (putF "statics" (.ref t0) [])))) hp4 .put)
  have w1 := hY4.mono (sqt_x (H' := upd H4 p (.ins (PC K) dx (putF "frames" (.ref t1) (putF "statics" (.ref t0) [])))) hp4 .put)
  have hp5 : (upd H4 p (.ins (PC K) dx (putF "frames" (.ref t1) (putF "statics" (.ref t0) [])))) p = some (.ins (PC K) dx (putF "frames" (.ref t1) (putF "statics" (.ref t0) []))) := upd_same
  clear w0 hY4
  generalize upd H4 p (.ins (PC K) dx (putF "frames" (.ref t1) (putF "statics" (.ref t0) []))) = H5 at sx2 hp5 w0' w1 ⊢
  have l5 : (putF ("frames" : Str) (.ref t1) (putF "statics" (.ref t0) [])).length ≤ 2 := putF_small l2
  -- watched
  obtain ⟨a2, rfl, g2⟩ := h2
  refine w_tuple (sq_x hp sx2 _ _ g2) fun t2 H6 s6 k2 => ?_
  wtm_at "gs"
  have hp6 := s6 _ _ hp5
  refine ⟨p, PC K, dx, _, rfl, hp6, pf.cl, pf.n2, by omega, ?_⟩
  wtm_at "gs"
  have sx3 : SameX p H (upd H6 p (.ins (PC K) dx (putF "watched" (.ref t2) (putF "frames" (.ref t1) (putF "statics" (.ref t0) []))))) := sx2.trans ((SameX.of s6).trans .put)
  have mm : ∀ a xs, ST K H5 a xs → ST K (upd H6 p (.ins (PC K) dx (putF "watched" (.ref t2) (putF "frames" (.ref t1) (putF "statics" (.ref t0) []))))) a xs := fun a xs z => sqt_x hp6 .put _ _ (st_m s6 _ _ z)
  have v0 := w0'.mono mm
  have v1 := w1.mono mm
  have v2 : RI (ST K (upd H6 p (.ins (PC K) dx (putF "watched" (.ref t2) (putF "frames" (.ref t1) (putF "statics" (.ref t0) [])))))) (.ref t2) P.watched := ⟨t2, rfl, sqt_x hp6 .put _ _ k2⟩
  have hp7 : (upd H6 p (.ins (PC K) dx (putF "watched" (.ref t2) (putF "frames" (.ref t1) (putF "statics" (.ref t0) []))))) p = some (.ins (PC K) dx (putF "watched" (.ref t2) (putF "frames" (.ref t1) (putF "statics" (.ref t0) [])))) := upd_same
  have l7 : (putF ("watched" : Str) (.ref t2) (putF "frames" (.ref t1) (putF "statics" (.ref t0) []))).length ≤ 3 := putF_small l5
  clear w0' w1 mm
  generalize upd H6 p (.ins (PC K) dx (putF "watched" (.ref t2) (putF "frames" (.ref t1) (putF "statics" (.ref t0) [])))) = H7 at sx3 hp7 v0 v1 v2 ⊢
  -- parted
  obtain ⟨a3, rfl, g3⟩ := h3
  refine w_tuple (sq_x hp sx3 _ _ g3) fun t3 H8 s8 k3 => ?_
  wtm_at "gs"
  have hp8 := s8 _ _ hp7
  refine ⟨p, PC K, dx, _, rfl, hp8, pf.cl, pf.n3, by omega, ?_⟩
  wtm_at "gs"
  have mm : ∀ a xs, ST K H7 a xs → ST K (upd H8 p (.ins (PC K) dx (putF "parted" (.ref t3) (putF "watched" (.ref t2) (putF "frames" (.ref t1) (putF "statics" (.ref t0) [])))))) a xs := fun a xs z => sqt_x hp8 .put _ _ (st_m s8 _ _ z)
  have sx4 : SameX p H (upd H8 p (.ins (PC K) dx (putF "parted" (.ref t3) (putF "watched" (.ref t2) (putF "frames" (.ref t1) (putF "statics" (.ref t0) [])))))) := sx3.trans ((SameX.of s8).trans .put)
  have u0 := v0.mono mm
  have u1 := v1.mono mm
  have u2 := v2.mono mm
  have u3 : RI (ST K (upd H8 p (.ins (PC K) dx (putF "parted" (.ref t3) (putF "watched" (.ref t2) (putF "frames" (.ref t1) (putF "statics" (.ref t0) []))))))) (.ref t3) P.parted := ⟨t3, rfl, sqt_x hp8 .put _ _ k3⟩
  have hp9 : (upd H8 p (.ins (PC K) dx (putF "parted" (.ref t3) (putF "watched" (.ref t2) (putF "frames" (.ref t1) (putF "statics" (.ref t0) [])))))) p = some (.ins (PC K) dx (putF "parted" (.ref t3) (putF "watched" (.ref t2) (putF "frames" (.ref t1) (putF "statics" (.ref t0) []))))) := upd_same
  have l9 : (putF ("parted" : Str) (.ref t3) (putF "watched" (.ref t2) (putF "frames" (.ref t1) (putF "statics" (.ref t0) [])))).length ≤ 4 := putF_small l7
  clear v0 v1 v2 mm
  generalize upd H8 p (.ins (PC K) dx (putF "parted" (.ref t3) (putF "watched" (.ref t2) (putF "frames" (.ref t1) (putF "statics" (.ref t0) []))))) = H9 at sx4 hp9 u0 u1 u2 u3 ⊢
  -- objects
  obtain ⟨a4, ys4, rfl, g4, pf4⟩ := h4
  refine l_seq (sq_x hp sx4 _ _ g4) (fun D i H' => SameX D H9 H' ∧ ∃ ys, H' D = some (.lst ys) ∧ Paired (RO (ST K H')) ys (P.objs.take i)) (fun D nD => ⟨fun b o _ e => get_ne e (ne_of_none e nD), [], upd_same, .nil⟩) (fun D i H' nD hP => sq_stays fun b o e z => hP.1 b o (ne_of_none e nD) e) ?_ ?_
  · rintro D i x H' nD hx ⟨sD, ys, hD, hY⟩
    obtain ⟨f, hf, a, xs, rfl, ha, ⟨b, rfl, hb⟩⟩ := pgetL pf4 hx
    have mv : ∀ {a : Addr} {xs : List V}, SQ K H a xs → SQ K H' a xs := fun {a xs} h => by
      have h := sq_x hp sx4 _ _ h
      have z : Stays K a xs H9 H' := sq_stays fun b o e _ => sD b o (ne_of_none e nD) e
      exact h.elim (fun h => .inl (z.1 h)) fun h => .inr (z.2 h)
    refine w_gsq (mv ha) rfl ?_
    wtm_at "gs"
    refine ⟨rfl, ?_⟩
    wtm_at "gs"
    refine w_tuple (mv hb) fun tb H3 s3 kb => ?_
    wtm_at "gs"
    refine newT (by simp) fun t H5 nt s5 ht => ?_
    have hD5 : H5 D = some (.lst ys) := s5 _ _ (s3 _ _ hD)
    have el : ys.length ≤ 100000 := by
      rw [hY.length, List.length_take]
      omega
    refine kept hD5 (by omega) ⟨fun b o n e => get_ne (s5 _ _ (s3 _ _ (sD _ _ n e))) n, _, upd_same, ?_⟩
    rw [take_get hf]
    have m5 := st_upd (K := K) (ys := ys ++ [.ref t]) hD5
    refine papp (Paired.mapP hY fun _ _ z => z.mono fun a xs z => m5 _ _ (st_m s5 _ _ (st_m s3 _ _ z))) (.cons ⟨t, .ref tb, rfl, m5 _ _ (.of ht), ⟨tb, rfl, m5 _ _ (st_m s5 _ _ kb)⟩⟩ .nil)
  rintro D H10 nD ⟨sD, ys, hD, hY⟩
  rw [show ys4.length = P.objs.length from pf4.length, List.take_length] at hY
  wtm_at "gs"
  refine w_tuple (.l hD) fun t4 H11 s11 k4 => ?_
  wtm_at "gs"
  have s911 : Same H9 H11 := fun b o e => s11 _ _ (sD _ _ (ne_of_none e nD) e)
  have hp11 := s911 _ _ hp9
  refine ⟨p, PC K, dx, _, rfl, hp11, pf.cl, pf.n4, by omega, ?_⟩
  have mm : ∀ a xs, ST K H11 a xs → ST K (upd H11 p (.ins (PC K) dx (putF "objects" (.ref t4) (putF "parted" (.ref t3) (putF "watched" (.ref t2) (putF "frames" (.ref t1) (putF "statics" (.ref t0) []))))))) a xs := fun a xs z => sqt_x hp11 .put _ _ z
  have mm9 : ∀ a xs, ST K H9 a xs → ST K (upd H11 p (.ins (PC K) dx (putF "objects" (.ref t4) (putF "parted" (.ref t3) (putF "watched" (.ref t2) (putF "frames" (.ref t1) (putF "statics" (.ref t0) []))))))) a xs := fun a xs z => mm _ _ (st_m s911 _ _ z)
  refine q _ (sx4.trans ((SameX.of s911).trans .put)) ⟨pf, dx, _, .ref t0, .ref t1, .ref t2, .ref t3, .ref t4, upd_same, ?_, ?_, ?_, ?_, lk_eq, ?_, u0.mono mm9, u1.mono mm9, u2.mono mm9, u3.mono mm9, ⟨t4, ys, rfl, mm _ _ k4, Paired.mapP hY fun _ _ z => z.mono fun a xs z => mm _ _ (st_m s11 _ _ z)⟩⟩
  · rw [lk_ne so_, lk_ne sp_, lk_ne sw_, lk_ne sf_, lk_eq]
  · rw [lk_ne fo_, lk_ne fp_, lk_ne fw_, lk_eq]
  · rw [lk_ne wo_, lk_ne wp_, lk_eq]
  · rw [lk_ne po_, lk_eq]
  · rw [lk_ne ro_, lk_ne rp_, lk_ne rw_, lk_ne rf_, lk_ne rs_]
    all_goals rfl
/-! ### .. the rows, what is reached without one -/
theorem len_Picture_rows (K : PySem.W.Frag) (vs : List V) (H : Hp) (Q : VK) (E : XK) (h : sp_Picture_rows K vs H Q E) : vs.length = (["self"] : List Str).length := by
  obtain ⟨p, P, rfl, _⟩ := h
  rfl
theorem flat_len {α : Type} (qs : List (α × α)) : (qs.flatMap fun q => [q.1, q.2]).length = 2 * qs.length := by
  induction qs with
  | nil => rfl
  | cons q qs ih =>
    rw [List.flatMap_cons, List.length_append, ih, List.length_cons]
    show 2 + 2 * qs.length = 2 * (qs.length + 1)
    omega
theorem flat_take {α : Type} {qs : List (α × α)} {i : Nat} {q : α × α} (h : qs[i]? = some q) : ((qs.take (i + 1)).flatMap fun q => [q.1, q.2]) = ((qs.take i).flatMap fun q => [q.1, q.2]) ++ [q.1] ++ [q.2] := by
  rw [take_get h, List.flatMap_append, List.append_assoc]
  rfl
theorem pure_Picture_rows (K : PySem.W.Frag) (vs : List V) (H : Hp) (Q : VK) (E : XK) (h : sp_Picture_rows K vs H Q E) : t_Picture_rows K { nx := fun _ H' => Q .non H', rt := Q } (start ["self", "rows", "frame"] vs) H := by
  obtain ⟨p, P, rfl, hp, hf, q⟩ := h
  unfold t_Picture_rows
  wtm_at "gs"
  apply pic0 hp
  intro x0 h0
  wtm_at "gs"
  refine newL (by simp) fun r H1 nr s1 hr => ?_
  wtm_at "gs"
  apply pic1 (hp.same s1)
  intro x1 h1
  obtain ⟨a1, xs, rfl, g1, pf⟩ := h1
  obtain ⟨qs, pq, pr⟩ := rf_rows pf
  have eql : xs.length = qs.length := pq.length
  have efl : xs.length = P.frames.length := pf.length
  have stL : ∀ {H' : Hp} {l : Addr} {xs ys : List V} {a : Addr} {zs : List V}, H1 l = some (.lst xs) → SameX l H1 H' → SqT K H1 a zs → SqT K H' a zs := fun {H' l xs ys a zs} e s h => by
    rcases h with (h | ⟨o, h⟩) | h
    · exact .inl (.inl (s _ _ (ne_of h e (by intro z; cases z)) h))
    · exact .inl (.inr ⟨o, s _ _ (ne_of h e (by intro z; cases z)) h⟩)
    · exact .inr h
  refine f_tup g1 (fun i σ' H' => ∃ y, σ' = [some (.ref p), some (.ref r), y] ∧ SameX r H1 H' ∧ H' r = some (.lst ([x0] ++ (qs.take i).flatMap fun q => [q.1, q.2]))) ⟨none, rfl, fun _ _ _ e => e, hr⟩ ?_ ?_ ?_
  · rintro i σ' H' ⟨y, rfl, s, hR⟩
    exact stL (ys := []) hr s g1
  · rintro i x σ' H' hx ⟨y, rfl, s, hR⟩
    obtain ⟨q2, hq2, a, nm, pl, rfl, ha⟩ := pgetL pq hx
    have hi : i < qs.length := (List.getElem?_eq_some_iff.mp hq2).1
    have ha' := stL (ys := []) hr s ha
    have hz : ((qs.take i).flatMap fun q => [q.1, q.2]).length = 2 * i := by
      rw [flat_len, List.length_take]
      omega
    wtm_at "gs"
    refine ⟨tyL hR, ?_⟩
    wtm_at "gs"
    refine w_ixn (k := 2) (.inr ha') rfl ?_
    wtm_at "gs"
    refine w_append hR ?_ ?_
    · rw [List.length_append, hz]
      show 1 + 2 * i < _
      omega
    wtm_at "gs"
    have s2 : SameX r H1 (upd H' r (.lst ([x0] ++ (qs.take i).flatMap (fun q => [q.1, q.2]) ++ [q2.1]))) := s.trans .put
    have hR2 : (upd H' r (.lst ([x0] ++ (qs.take i).flatMap (fun q => [q.1, q.2]) ++ [q2.1]))) r = some (.lst ([x0] ++ (qs.take i).flatMap (fun q => [q.1, q.2]) ++ [q2.1])) := upd_same
    generalize upd H' r (.lst ([x0] ++ (qs.take i).flatMap (fun q => [q.1, q.2]) ++ [q2.1])) = H2 at s2 hR2 ⊢
    refine ⟨tyL hR2, ?_⟩
    wtm_at "gs"
    refine w_ixn (k := 3) (.inr (stL (ys := []) hr s2 ha)) rfl ?_
    wtm_at "gs"
    refine w_append hR2 ?_ ?_
    · rw [List.length_append, List.length_append, hz]
      show 1 + 2 * i + 1 < _
      omega
    · refine ⟨_, rfl, s2.trans .put, ?_⟩
      rw [upd_same, flat_take hq2]
      simp only [List.append_assoc]
  · rintro σ' H' ⟨y, rfl, s, hR⟩
    rw [eql, List.take_length] at hR
    have s0 : Same H H' := fun b o e => s _ _ (ne_of_none e nr) (s1 _ _ e)
    wtm_at "gs"
    apply pic2 (hp.same s0)
    intro x2 h2
    wtm_at "gs"
    apply pic3 (hp.same s0)
    intro x3 h3
    wtm_at "gs"
    refine newL (by simp) fun t H2 nt s2 ht => ?_
    wtm_at "gs"
    refine w_cat (s2 _ _ hR) ht ?_ fun u H3 nu s3 hu => ?_
    · rw [List.length_append, flat_len]
      show 1 + 2 * qs.length + 2 ≤ _
      omega
    wtm_at "gs"
    refine w_tuple (.l hu) fun v H4 s4 hv => ?_
    have s04 : Same H H4 := s0.trans (s2.trans (s3.trans s4))
    refine q H4 v _ s04 hv ?_
    unfold Pic.rows
    refine papp (papp (.cons (h0.mono (st_m s04)) .nil) (Paired.mapP pr fun _ _ z => z.mono fun a xs z => st_m s4 _ _ (st_m s3 _ _ (st_m s2 _ _ (stL (ys := []) hr s z))))) (.cons (h2.mono (st_m (s2.trans (s3.trans s4)))) (.cons (h3.mono (st_m (s2.trans (s3.trans s4)))) .nil))
/-! ### .. what is reached without one -/
/-- tuples, instances, known things -/
def Imm : HO → Bool
  | .tup _ => true
  | .frz _ _ => true
  | .ins _ _ _ => true
  | _ => false
def KeepI (H H' : Hp) : Prop := ∀ b u, Imm u = true → H b = some u → H' b = some u
theorem KeepI.of {H H' : Hp} (s : Same H H') : KeepI H H' := fun b u _ e => s b u e
theorem KeepI.trans {H H1 H2 : Hp} (a : KeepI H H1) (b : KeepI H1 H2) : KeepI H H2 := fun c u i e => b c u i (a c u i e)
theorem KeepI.upd {H : Hp} {l : Addr} {w o : HO} (e : H l = some w) (hw : Imm w = false) : KeepI H (L2.upd H l o) := fun b u i h => get_ne h fun z => by
  subst z
  rw [e] at h
  cases h
  rw [hw] at i
  cases i
theorem KeepI.two {H H' : Hp} {o d : Addr} {u v : HO} (h : ∀ b, b ≠ o → b ≠ d → H' b = H b) (ho : H o = some u) (hu : Imm u = false) (hd : H d = some v) (hv : Imm v = false) : KeepI H H' := fun b w i e => by
  rw [h b (fun z => by subst z; rw [ho] at e; cases e; rw [hu] at i; cases i) (fun z => by subst z; rw [hd] at e; cases e; rw [hv] at i; cases i)]
  exact e
theorem st_keep {K : PySem.W.Frag} {H H' : Hp} (k : KeepI H H') : ∀ a xs, ST K H a xs → ST K H' a xs := fun a xs h => by
  rcases h with (h | ⟨o, h⟩) | h
  · exact .inl (.inl (k _ _ rfl h))
  · exact .inl (.inr ⟨o, k _ _ rfl h⟩)
  · exact .inr h
theorem PicT.keep {K : PySem.W.Frag} {C : Addr} {H H' : Hp} {p : Addr} {P : Pic} (k : KeepI H H') (h : PicT K C H p P) : PicT K C H' p P := by
  obtain ⟨_, dx, fs, _, _, _, _, _, e', _⟩ := id h
  exact h.at_ (fun o q => k _ _ (by rw [e'] at q; cases q; rfl) q) (st_keep k)
theorem refs_take {ws : List Int} : ∀ i, ((List.range i).filterMap fun (i : Nat) => ((ws[i]?).bind refOf).map fun n => ((i : Int), n)).map (·.2) = refs (ws.take i)
  | 0 => rfl
  | i + 1 => by
    rw [tgts_take, List.map_append, refs_take i, List.take_add_one]
    unfold refs
    rw [List.filterMap_append]
    congr 1
    cases e : ws[i]? with
    | none => rfl
    | some w =>
      show List.map (·.2) (((some w).bind refOf).map fun n => ((i : Int), n)).toList = _
      rw [Option.bind_some, Option.toList_some, filterMap_one]
      cases refOf w <;> rfl
theorem tgts_refs (ws : List Int) : (tgts ws).map (·.2) = refs ws := by
  have h := refs_take (ws := ws) ws.length
  rw [List.take_length] at h
  exact h
theorem tgts_len (ws : List Int) : (tgts ws).length ≤ ws.length := tgts_le ws ws.length
theorem len_reached_without (K : PySem.W.Frag) (vs : List V) (H : Hp) (Q : VK) (E : XK) (h : sp_reached_without K vs H Q E) : vs.length = (["picture", "barred"] : List Str).length := by
  obtain ⟨p, P, b, n, B, rfl, _⟩ := h
  rfl
def heldR (bar : Int → Bool) (rows : List (List Int)) (i : Nat) : List Int := held0 bar (rows.take i)
theorem heldR_snoc {bar : Int → Bool} {rows : List (List Int)} {i : Nat} {ws : List Int} (h : rows[i]? = some ws) : heldR bar rows (i + 1) = meetN bar (heldR bar rows i) (refs ws) := by
  unfold heldR held0
  rw [take_get h, List.foldl_append]
  rfl
theorem heldR_small {bar : Int → Bool} {rows : List (List Int)} {n : Nat} (hr : ∀ ws ∈ rows, Vals' n ws) (i : Nat) : (heldR bar rows i).length ≤ n :=
  heldN_small (objs := []) (fun ws h => hr ws (List.mem_of_mem_take h)) (fun _ h => by cases h) 0
/-- two things that are worked on: a list of numbers at o, a dict at d -/
structure Work (K : PySem.W.Frag) (H0 H1 H' : Hp) (o d : Addr) (bar : Int → Bool) (L : List Int) : Prop where
  sm : Same H0 H'
  kp : KeepI H1 H'
  lo : H' o = some (.lst (iv L))
  di : ∃ F, IDict H' d F (1 + L.length) ∧ ∀ k, (F k).isSome = (bar k || decide (k ∈ L))
theorem idict_imm {H : Hp} {d : Addr} {F : Int → Option V} {n : Nat} (h : IDict H d F n) : ∃ u, H d = some u ∧ Imm u = false := by
  obtain ⟨kvs, e, _⟩ := h
  exact ⟨_, e, rfl⟩
/-- meet(targets(x), order, known) at work -/
theorem Work.meet {K : PySem.W.Frag} {H0 H1 H' H2 : Hp} {o d f : Addr} {bar : Int → Bool} {L : List Int} (W : Work K H0 H1 H' o d bar L) (no : H0 o = none) (nd : H0 d = none) {ws : List Int} {xs : List V} (s2 : Same H' H2) (nf : H' f = none) (hf : H2 f = some (.lst xs)) (hP : Paired (PairAt H2) xs (tgts ws))
    (hl : ws.length ≤ 100000) (hL : L.length ≤ 100000) {Q : VK} (q : ∀ H'', Work K H0 H1 H'' o d bar (meetN bar L (refs ws)) → Q .non H'') : sp_meet K [.ref f, .ref o, .ref d] H2 Q E0 := by
  obtain ⟨F, hd, hF⟩ := W.di
  have tl := tgts_len ws
  refine ⟨f, o, d, xs, tgts ws, L, F, 1, bar, rfl, hf, hP, fun z => ?_, s2 _ _ W.lo, hd.same s2, hF, by omega, fun H3 F' fr ho hd' hF' => ?_⟩
  · rw [z, W.lo] at nf
    cases nf
  rw [tgts_refs] at ho hd' hF'
  obtain ⟨u, eu, iu⟩ := idict_imm (hd.same s2)
  refine q H3 ⟨fun b w e => ?_, W.kp.trans ((KeepI.of s2).trans (KeepI.two fr (s2 _ _ W.lo) rfl eu iu)), ho, F', hd', hF'⟩
  rw [fr b (ne_of_none e no) (ne_of_none e nd)]
  exact s2 _ _ (W.sm _ _ e)
theorem at_int {xs : List V} {i : Int} {k : Nat} {v : V} (e : i = (k : Int)) (h : xs[k]? = some v) : atI xs i = some v := by
  subst e
  exact atI_nat h
theorem pure_reached_without (K : PySem.W.Frag) (vs : List V) (H : Hp) (Q : VK) (E : XK) (h : sp_reached_without K vs H Q E) : t_reached_without K { nx := fun _ H' => Q .non H', rt := Q } (start ["picture", "barred", "order", "known", "row", "looked", "number"] vs) H := by
  obtain ⟨p, P, b, n, B, rfl, hp, VP, hn, hB, q⟩ := h
  have hr : ∀ ws ∈ P.rows, Vals' n ws := fun ws h => (VP.rows ws h).1
  have hq : ∀ ws ∈ P.pays, Vals' n ws := fun ws h => (VP.pays ws h).1
  unfold t_reached_without
  wtm_at "gs"
  refine newL (by simp) fun o H1 no s1 ho => ?_
  wtm_at "gs"
  refine w_disp1 fun d H2 nd s2 hd => ?_
  wtm_at "gs"
  refine ⟨hd, Sum.inl b, rfl, ?_⟩
  have nod : o ≠ d := ne_of_none ho nd
  have nd0 : H d = none := s1.free nd
  have W0 : Work K H H (upd H2 d (.dK [(Sum.inl b, .bl true)])) o d (bar1 b) (heldR (bar1 b) P.rows 0) := by
    refine ⟨same_mut (s1.trans s2) nd0, (KeepI.of (s1.trans s2)).trans (.upd hd rfl), get_ne (s2 _ _ ho) nod, _, ⟨_, upd_same, Nat.le_refl _, fun _ => rfl⟩, fun k => ?_⟩
    show (valV [((Sum.inl b : Key), V.bl true)] (Sum.inl k)).isSome = _
    unfold bar1
    by_cases z : k = b
    · subst z
      rw [decide_eq_true rfl, valV_pos rfl]
      rfl
    · rw [decide_eq_false z, valV_neg fun e => z (Sum.inl.inj e).symm]
      rfl
  generalize upd H2 d (.dK [(Sum.inl b, .bl true)]) = H3 at W0 ⊢
  wtm_at "gs"
  refine picM (hp.keep W0.kp) ?_
  wtm_at "gs"
  have hfr : P.frames.length ≤ 100000 := Nat.le_trans VP.frs hB
  refine ⟨p, P, rfl, hp.keep W0.kp, hfr, fun H4 r rs s4 hR hP => ?_⟩
  have W1 : Work K H H4 H4 o d (bar1 b) (heldR (bar1 b) P.rows 0) := ⟨W0.sm.trans s4, fun _ _ _ e => e, s4 _ _ W0.lo, by
    obtain ⟨F, h1, h2⟩ := W0.di
    exact ⟨F, h1.same s4, h2⟩⟩
  refine f_tup hR (fun i σ' H' => ∃ y, σ' = [some (.ref p), some (.int b), some (.ref o), some (.ref d), y, none, none] ∧ Work K H H4 H' o d (bar1 b) (heldR (bar1 b) P.rows i)) ⟨none, rfl, W1⟩ (fun i σ' H' ⟨_, _, W⟩ => st_keep W.kp _ _ hR) ?_ ?_
  · rintro i x σ' H' hx ⟨y, rfl, W⟩
    obtain ⟨ws, hws, a, rfl, ha⟩ := pgetL hP hx
    wtm_at "gs"
    have hwl := Nat.le_trans (VP.rows ws (List.mem_of_getElem? hws)).2 hB
    refine ⟨a, ws, rfl, .inr (st_keep W.kp _ _ ha), hwl, fun H2 f xs s2 nf hf hP2 => ?_⟩
    wtm_at "gs"
    refine W.meet no nd0 s2 nf hf hP2 hwl (by have := heldR_small (bar := bar1 b) hr i; omega) fun H'' W2 => ?_
    refine ⟨_, rfl, ?_⟩
    rw [heldR_snoc hws]
    exact W2
  · rintro σ' H' ⟨y, rfl, W⟩
    rw [hP.length] at W
    have e0 : heldR (bar1 b) P.rows P.rows.length = heldN (bar1 b) P.rows P.pays 0 := by
      unfold heldR
      rw [List.take_length]
      rfl
    rw [e0] at W
    wtm_at "gs"
    have sml : ∀ k, (heldN (bar1 b) P.rows P.pays k).length ≤ n := heldN_small hr hq
    refine f_while (fun m σ' H' => ∃ k y, m + k = n ∧ σ' = [some (.ref p), some (.int b), some (.ref o), some (.ref d), y, some (.int (k : Int)), none] ∧ k ≤ (heldN (bar1 b) P.rows P.pays k).length ∧ Work K H H4 H' o d (bar1 b) (heldN (bar1 b) P.rows P.pays k)) n
      ⟨0, y, by omega, rfl, Nat.zero_le _, W⟩ ?_
    rintro m σ' H' ⟨k, y, em, rfl, hk, W⟩
    wtm_at "gs"
    refine w_len (.l W.lo) ?_
    wtm_at "gs"
    rw [iv_len]
    refine itd (fun e => ?_) (fun e => ?_)
    · have hk1 : k < (heldN (bar1 b) P.rows P.pays k).length := by omega
      have hs := sml k
      refine ⟨_, fun σ2 H2 z => z, ?_⟩
      wtm_at "gs"
      apply pic4 (hp.keep (fun c u i e => W.kp c u i (s4 c u (W0.kp c u i e))))
      intro x4 h4
      obtain ⟨a4, ys, rfl, g4, p4⟩ := h4
      wtm_at "gs"
      obtain ⟨j, hj⟩ : ∃ j, (heldN (bar1 b) P.rows P.pays k)[k]? = some j := ⟨_, List.getElem?_eq_getElem hk1⟩
      have hjr := heldN_in hr hq k j (List.mem_of_getElem? hj)
      refine w_ixn (.l W.lo) (iv_get hj) ?_
      wtm_at "gs"
      obtain ⟨ob, hob⟩ : ∃ ob, P.objs[j.toNat]? = some ob := ⟨_, List.getElem?_eq_getElem (by have := VP.cnt; omega)⟩
      obtain ⟨v, hv, a5, x5, rfl, g5, a6, rfl, g6⟩ := pget p4 hob
      refine w_ix (.inr g4) (at_int (show j = ((j.toNat : Nat) : Int) by omega) hv) ?_
      wtm_at "gs"
      refine w_ixn (k := 1) (.inr g5) rfl ?_
      wtm_at "gs"
      have hpay : P.pays[j.toNat]? = some ob.2 := by
        unfold Pic.pays
        rw [List.getElem?_map, hob]
        rfl
      have epay : payload P.pays j = ob.2 := by
        unfold payload
        rw [hpay]
        rfl
      have hwl := Nat.le_trans (VP.pays ob.2 (List.mem_of_getElem? hpay)).2 hB
      refine ⟨a6, ob.2, rfl, .inr g6, hwl, fun H2 f xs s2 nf hf hP2 => ?_⟩
      wtm_at "gs"
      refine W.meet no nd0 s2 nf hf hP2 hwl (by omega) fun H'' W2 => ?_
      wtm_at "gs"
      have e1 : heldN (bar1 b) P.rows P.pays (k + 1) = meetN (bar1 b) (heldN (bar1 b) P.rows P.pays k) (refs ob.2) := by
        show heldS _ _ _ _ = _
        rw [heldS_some hj, epay]
      rw [← e1] at W2
      refine ⟨m - 1, by omega, k + 1, y, by omega, ?_, ?_, W2⟩
      · rw [show ((k + 1 : Nat) : Int) = (k : Int) + 1 by omega]
        rfl
      · have := heldN_len (bar := bar1 b) (rows := P.rows) (objs := P.pays) (show k ≤ k + 1 by omega)
        omega
    · have ek : k = (heldN (bar1 b) P.rows P.pays k).length := by omega
      have hs := sml k
      wtm_at "gs"
      generalize eL : heldN (bar1 b) P.rows P.pays k = L at W ek hs
      refine d_seq (.l W.lo) (fun D i H'' => ∃ kvs F, Same H' H'' ∧ H' D = none ∧ H'' D = some (.dK kvs) ∧ kvs.length ≤ i ∧ (∀ k : Int, valV kvs (Sum.inl k) = F k) ∧ ∀ k, (F k).isSome = decide (k ∈ L.take i)) (fun D nD => ⟨[], fun _ => none, same_new nD, nD, upd_same, Nat.le_refl _, fun _ => rfl, fun _ => rfl⟩)
        (fun D i H'' nD hP => .same hP.choose_spec.choose_spec.1) ?_ ?_
      · rintro D i x H'' nD hx ⟨kvs, F, sD, _, hD, hlen, hF, hM⟩
        obtain ⟨w, hw, rfl⟩ := iv_at hx
        have hi : i < L.length := (List.getElem?_eq_some_iff.mp hw).1
        wtm_at "gs"
        refine ⟨rfl, ?_⟩
        wtm_at "gs"
        refine ⟨kvs, Sum.inl w, rfl, hD, Nat.lt_of_le_of_lt hlen (Nat.lt_of_lt_of_le (show i < 100000 by omega) (by decide)), putK kvs (Sum.inl w) (.bl true), fput F w (.bl true), same_mut sD nD, nD, upd_same, Nat.le_trans (put_len _ _ _) (by omega), fun j => ?_, fun j => ?_⟩
        · rw [valV_put]
          unfold fput
          by_cases z : j = w
          · subst z
            rw [if_pos rfl, if_pos rfl]
          · rw [if_neg z, if_neg fun e => z (Sum.inl.inj e), hF]
        · unfold fput
          rw [take_get hw]
          by_cases z : j = w
          · subst z
            rw [if_pos rfl, decide_eq_true (List.mem_append.mpr (.inr List.mem_cons_self))]
            rfl
          · rw [if_neg z, hM]
            refine decide_eq_decide.mpr ⟨fun m => List.mem_append.mpr (.inl m), fun m => ?_⟩
            rcases List.mem_append.mp m with m | m
            · exact m
            · exact absurd (List.mem_singleton.mp m) z
      · rintro D H'' nD ⟨kvs, F, sD, _, hD, hlen, hF, hM⟩
        rw [iv_len] at hlen hM
        rw [List.take_length] at hM
        refine q H'' D F L (W.sm.trans sD) (W.sm.free nD) ?_ ⟨kvs, hD, by omega, hF⟩ hM
        unfold Held
        rw [← ek]
        exact eL.symm
/-! ### .. the law's small defs -/
theorem isi {K : PySem.W.Frag} {H : Hp} {Q : VK} {x : V} {a b : String} {r : Bool} (t : TyOf K H x (.type a)) (e : kitB a b = some r) (q : Q (.bl r) H) : rIsi K [x, .ty b] H Q := ⟨x, .ty b, .type a, .type b, r, rfl, .ty b, .base t, kit_ty e, q⟩
theorem len__law_whole (K : PySem.W.Frag) (vs : List V) (H : Hp) (Q : VK) (E : XK) (h : sp__law_whole K vs H Q E) : vs.length = (["_law_value"] : List Str).length := by
  obtain ⟨v, rfl, _⟩ := h
  rfl
theorem pure__law_whole (K : PySem.W.Frag) (vs : List V) (H : Hp) (Q : VK) (E : XK) (h : sp__law_whole K vs H Q E) : t__law_whole K { nx := fun _ H' => Q .non H', rt := Q } (start ["_law_value"] vs) H := by
  obtain ⟨v, rfl, ⟨i, rfl, q⟩ | ⟨rfl, q⟩⟩ := h
  · unfold t__law_whole
    wtm_at "gs"
    refine isi (r := true) (.int i) (by decide +kernel) ?_
    wtm_at "gs"
    refine isi (r := false) (.int i) (by decide +kernel) ?_
    wtm_at "gs"
    exact q
  · unfold t__law_whole
    wtm_at "gs"
    refine isi (r := false) .non (by decide +kernel) ?_
    wtm_at "gs"
    exact q
theorem len__law_cell (K : PySem.W.Frag) (vs : List V) (H : Hp) (Q : VK) (E : XK) (h : sp__law_cell K vs H Q E) : vs.length = (["_law_script", "_law_k"] : List Str).length := by
  obtain ⟨a, ns, k, rfl, _⟩ := h
  rfl
theorem pure__law_cell (K : PySem.W.Frag) (vs : List V) (H : Hp) (Q : VK) (E : XK) (h : sp__law_cell K vs H Q E) : t__law_cell K { nx := fun _ H' => Q .non H', rt := Q } (start ["_law_script", "_law_k", "_law_seed", "_law_cell_here"] vs) H := by
  obtain ⟨a, ns, k, rfl, hS, h0, h1, q⟩ := h
  unfold t__law_cell
  wtm_at "gs"
  refine w_len (.inl hS) ?_
  wtm_at "gs"
  rw [List.length_map]
  refine itd (fun e => ?_) (fun e => ?_)
  · obtain ⟨w, hw⟩ : ∃ w, ns[k.toNat]? = some w := ⟨_, List.getElem?_eq_getElem (by omega)⟩
    wtm_at "gs"
    refine w_ix (.inl hS) (at_int (show k = ((k.toNat : Nat) : Int) by omega) (iv_get hw)) ?_
    exact q w
  · wtm_at "gs"
    refine f_lst hS (fun i σ' H' => ∃ (z : Int) (y : Option V), σ' = [some (.ref a), some (.int k), some (.int z), y] ∧ H' = H ∧ 0 ≤ z ∧ z < 1000003) ⟨17, none, rfl, rfl, by omega, by omega⟩ (fun i σ' H' ⟨_, _, _, e, _⟩ => e ▸ hS) ?_ ?_
    · rintro i x σ' H' hx ⟨z, y, rfl, rfl, z0, z1⟩
      obtain ⟨w, hw, rfl⟩ := iv_at hx
      wtm_at "gs"
      exact ⟨_, _, rfl, rfl, Int.emod_nonneg _ (by decide), Int.emod_lt_of_pos _ (by decide)⟩
    · rintro σ' H' ⟨z, y, rfl, rfl, z0, z1⟩
      wtm_at "gs"
      exact q _
theorem iv_snoc (ds : List Int) (d : Int) : some (HO.lst (iv ds ++ [V.int d])) = some (HO.lst (iv (ds ++ [d]))) := by
  rw [iv_app]
  rfl
theorem len__law_digits (K : PySem.W.Frag) (vs : List V) (H : Hp) (Q : VK) (E : XK) (h : sp__law_digits K vs H Q E) : vs.length = (["_law_cell_here", "_law_sizes"] : List Str).length := by
  obtain ⟨z, a, ss, rfl, _⟩ := h
  rfl
theorem div63 {s : Int} (h0 : 0 < s) (h1 : s < 2 ^ 63) (i : Int) : CDivW i s := wide_div (b := 63) h0 (by omega) (by decide) (by decide)
theorem dig_snoc {ds ss : List Int} {i : Nat} {s d : Int} (h : Digits ds (ss.take i)) (hs : ss[i]? = some s) (h0 : 0 ≤ d) (h1 : d < s) : Digits (ds ++ [d]) (ss.take (i + 1)) := by
  rw [take_get hs]
  exact papp h (.cons ⟨h0, h1⟩ .nil)
theorem mod_in (x : Int) {s : Int} (h : 0 < s) : 0 ≤ x % s ∧ x % s < s := ⟨Int.emod_nonneg _ (by omega), Int.emod_lt_of_pos _ h⟩
theorem pow18 : (10 : Int) ^ (18 : Int).toNat = 1000000000000000000 := by decide +kernel
theorem pure__law_digits (K : PySem.W.Frag) (vs : List V) (H : Hp) (Q : VK) (E : XK) (h : sp__law_digits K vs H Q E) : t__law_digits K { nx := fun _ H' => Q .non H', rt := Q } (start ["_law_cell_here", "_law_sizes", "_law_row", "_law_rest", "_law_size", "_law_seed", "_law_k", "_law_twice"] vs) H := by
  obtain ⟨z, a, ss, rfl, hS, hs, hl, q⟩ := h
  unfold t__law_digits
  wtm_at "gs"
  refine newL (by simp) fun l H1 nl s1 hl1 => ?_
  wtm_at "gs"
  refine w_rI (C := CPow) ⟨by decide, by decide, by decide⟩ ?_
  rw [pow18]
  wtm_at "gs"
  refine itd (fun e => ?_) (fun e => ?_)
  · wtm_at "gs"
    refine w_rI (C := CPow) ⟨by decide, by decide, by decide⟩ ?_
    rw [pow18]
    wtm_at "gs"
    refine f_seq (.l (s1 _ _ hS)) (fun i σ' H' => ∃ (r : Int) (y : Option V) (ds : List Int), σ' = [some (.int z), some (.ref a), some (.ref l), some (.int r), y, none, none, none] ∧ Same H H' ∧ H' l = some (.lst (iv ds)) ∧ Digits ds (ss.take i)) ⟨_, none, [], rfl, s1, hl1, .nil⟩ ?_ ?_ ?_
    · rintro i σ' H' ⟨r, y, ds, rfl, s, hL, hD⟩
      exact sq_stays fun b o e z => by
        subst z
        rw [s1 _ _ hS] at e
        cases e
        exact s _ _ hS
    · rintro i x σ' H' hx ⟨r, y, ds, rfl, s, hL, hD⟩
      obtain ⟨w, hw, rfl⟩ := iv_at hx
      have hi : i < ss.length := (List.getElem?_eq_some_iff.mp hw).1
      have hp := hs w (List.mem_of_getElem? hw)
      wtm_at "gs"
      refine ⟨tyL hL, ?_⟩
      wtm_at "gs"
      refine w_append hL ?_ ?_
      · rw [iv_len, hD.length, List.length_take]
        omega
      wtm_at "gs"
      refine w_rI (C := CDivW) (div63 hp.1 hp.2 _) ?_
      wtm_at "gs"
      refine ⟨_, _, _, rfl, same_mut s nl, ?_, dig_snoc hD hw (mod_in r hp.1).1 (mod_in r hp.1).2⟩
      rw [upd_same, iv_app]
      rfl
    · rintro σ' H' ⟨r, y, ds, rfl, s, hL, hD⟩
      rw [iv_len, List.take_length] at hD
      wtm_at "gs"
      exact q H' l ds s nl hL hD
  · wtm_at "gs"
    refine w_len (.l (s1 _ _ hS)) ?_
    wtm_at "gs"
    rw [iv_len]
    refine f_rng (by omega) (fun i σ' H' => ∃ (u : Int) (y t : Option V) (ds : List Int), σ' = [some (.int z), some (.ref a), some (.ref l), some (.int z), none, some (.int u), y, t] ∧ 0 ≤ u ∧ u < 2147483647 ∧ Same H H' ∧ H' l = some (.lst (iv ds)) ∧ Digits ds (ss.take i))
      ⟨_, none, none, [], rfl, (mod_in _ (by decide)).1, by have := (mod_in z (s := 2147483629) (by decide)).2; omega, s1, hl1, .nil⟩ ?_ ?_
    · rintro i σ' H' hi ⟨u, y, t, ds, rfl, u0, u1, s, hL, hD⟩
      obtain ⟨w, hw⟩ : ∃ w, ss[i]? = some w := ⟨_, List.getElem?_eq_getElem (by omega)⟩
      have hp := hs w (List.mem_of_getElem? hw)
      have m1 := mod_in (u * 48271 + 974711 * (i : Int) + 12345) (s := 2147483647) (by decide)
      wtm_at "gs"
      refine ⟨tyL hL, ?_⟩
      wtm_at "gs"
      refine w_ixn (.l (s _ _ hS)) (iv_get hw) ?_
      wtm_at "gs"
      refine w_append hL ?_ ?_
      · rw [iv_len, hD.length, List.length_take]
        omega
      exact ⟨_, _, _, _, rfl, m1.1, m1.2, same_mut s nl, upd_same.trans (iv_snoc _ _), dig_snoc hD hw (mod_in _ hp.1).1 (mod_in _ hp.1).2⟩
    · rintro σ' H' ⟨u, y, t, ds, rfl, u0, u1, s, hL, hD⟩
      rw [show ((ss.length : Nat) : Int).toNat = ss.length by omega, List.take_length] at hD
      wtm_at "gs"
      exact q H' l ds s nl hL hD
theorem len__law_turned (K : PySem.W.Frag) (vs : List V) (H : Hp) (Q : VK) (E : XK) (h : sp__law_turned K vs H Q E) : vs.length = (["_law_word", "_law_spots"] : List Str).length := by
  obtain ⟨w, d, F, n, f, rfl, _⟩ := h
  rfl
theorem pure__law_turned (K : PySem.W.Frag) (vs : List V) (H : Hp) (Q : VK) (E : XK) (h : sp__law_turned K vs H Q E) : t__law_turned K { nx := fun _ H' => Q .non H', rt := Q } (start ["_law_word", "_law_spots"] vs) H := by
  obtain ⟨w, d, F, n, f, rfl, hd, hF, q⟩ := h
  unfold t__law_turned
  unfold turnW at q
  wtm_at "gs"
  refine itd (fun e => ?_) (fun e => ?_)
  · wtm_at "gs"
    refine itd (fun e2 => ?_) (fun e2 => ?_)
    · rw [if_pos ⟨e, e2⟩] at q
      wtm_at "gs"
      refine ⟨d, .int (f (w / 2 - 1)), rfl, ?_, ?_⟩
      · have z := hd.get (w / 2 - 1)
        rw [hF ⟨e, e2⟩] at z
        exact z
      · wtm_at "gs"
        exact q
    · rw [if_neg (fun z => e2 z.2)] at q
      wtm_at "gs"
      exact q
  · rw [if_neg (fun z => e z.1)] at q
    refine iteF ?_
    wtm_at "gs"
    exact q
theorem len__law_turned_row (K : PySem.W.Frag) (vs : List V) (H : Hp) (Q : VK) (E : XK) (h : sp__law_turned_row K vs H Q E) : vs.length = (["_law_row", "_law_spots"] : List Str).length := by
  obtain ⟨x, ws, d, F, n, f, rfl, _⟩ := h
  rfl
theorem pure__law_turned_row (K : PySem.W.Frag) (vs : List V) (H : Hp) (Q : VK) (E : XK) (h : sp__law_turned_row K vs H Q E) : t__law_turned_row K { nx := fun _ H' => Q .non H', rt := Q } (start ["_law_row", "_law_spots", "_law_word"] vs) H := by
  obtain ⟨x, ws, d, F, n, f, rfl, ⟨a, rfl, ha⟩, hl, hd, hF, q⟩ := h
  unfold t__law_turned_row
  wtm_at "gs"
  refine l_seq ha (fun D i H' => Same H H' ∧ H' D = some (.lst (iv (turns f (ws.take i))))) (fun D nD => ⟨same_new nD, upd_same⟩) (fun D i H' nD hP => .same hP.1) ?_ ?_
  · rintro D i y H' nD hy ⟨s, hD⟩
    obtain ⟨w, hw, rfl⟩ := iv_at hy
    wtm_at "gs"
    refine ⟨rfl, ?_⟩
    wtm_at "gs"
    refine ⟨w, d, F, n, f, rfl, hd.same s, hF w (List.mem_of_getElem? hw), ?_⟩
    refine kept hD ?_ ⟨same_mut s nD, ?_⟩
    · rw [iv_len]
      unfold turns
      rw [List.length_map, List.length_take]
      omega
    · rw [upd_same, take_get hw]
      unfold turns
      rw [List.map_append, iv_app]
      rfl
  · rintro D H' nD ⟨s, hD⟩
    rw [iv_len, List.take_length] at hD
    wtm_at "gs"
    refine w_tuple (.l hD) fun t H2 s2 ht => ?_
    exact q H2 _ (s.trans s2) ⟨t, rfl, ht⟩
theorem len__law_words (K : PySem.W.Frag) (vs : List V) (H : Hp) (Q : VK) (E : XK) (h : sp__law_words K vs H Q E) : vs.length = (["_law_row", "_law_at", "_law_count", "_law_many", "_law_dense"] : List Str).length := by
  obtain ⟨r, ds, at_, cnt, many, dense, rfl, _⟩ := h
  rfl
theorem vals_snoc {n : Nat} {ws : List Int} {w : Int} (h : Vals' n ws) (hw : Val n w) : Vals' n (ws ++ [w]) := fun x hx => by
  rcases List.mem_append.mp hx with z | z
  · exact h x z
  · rw [List.mem_singleton.mp z]
    exact hw
theorem pure__law_words (K : PySem.W.Frag) (vs : List V) (H : Hp) (Q : VK) (E : XK) (h : sp__law_words K vs H Q E) : t__law_words K { nx := fun _ H' => Q .non H', rt := Q } (start ["_law_row", "_law_at", "_law_count", "_law_many", "_law_dense", "_law_words_here", "_law_k", "_law_kind", "_law_pick"] vs) H := by
  obtain ⟨r, ds, at_, cnt, many, dense, rfl, hr, hb, hc, q⟩ := h
  unfold t__law_words
  wtm_at "gs"
  refine newL (by simp) fun l H1 nl s1 hl1 => ?_
  wtm_at "gs"
  refine f_rng (by omega) (fun i σ' H' => ∃ y u v ws, σ' = [some (.ref r), some (.int at_), some (.int cnt), some (.int many), some (.int dense), some (.ref l), y, u, v] ∧ Same H H' ∧ H' l = some (.lst (iv ws)) ∧ ws.length = i ∧ Vals' many ws)
    ⟨none, none, none, [], rfl, s1, hl1, rfl, fun _ h => by cases h⟩ ?_ ?_
  · rintro i σ' H' hi ⟨y, u, v, ws, rfl, s, hL, hn, hv⟩
    have g : ∀ j, j < 3 → ∃ w, ds[at_ + 3 * i + j]? = some w := fun j hj => ⟨_, List.getElem?_eq_getElem (by omega)⟩
    obtain ⟨w0, h0⟩ := g 0 (by omega)
    obtain ⟨w1, h1⟩ := g 1 (by omega)
    obtain ⟨w2, h2⟩ := g 2 (by omega)
    have fin : ∀ w, Val many w → ∀ σ2 : L2.St, (∃ y u v, σ2 = [some (.ref r), some (.int at_), some (.int cnt), some (.int many), some (.int dense), some (.ref l), y, u, v]) →
        ∃ y u v ws', σ2 = [some (.ref r), some (.int at_), some (.int cnt), some (.int many), some (.int dense), some (.ref l), y, u, v] ∧ Same H (upd H' l (.lst (iv ws ++ [.int w]))) ∧ (upd H' l (.lst (iv ws ++ [.int w]))) l = some (.lst (iv ws')) ∧ ws'.length = i + 1 ∧ Vals' many ws' := by
      rintro w hw σ2 ⟨y, u, v, rfl⟩
      refine ⟨y, u, v, ws ++ [w], rfl, same_mut s nl, ?_, ?_, vals_snoc hv hw⟩
      · rw [upd_same, iv_app]
        rfl
      · rw [List.length_append, hn]
        rfl
    have hz : (iv ws).length < 10000000 := by
      rw [iv_len]
      omega
    wtm_at "gs"
    refine w_ixn (k := at_ + 3 * i + 0) (.l (s _ _ hr)) (iv_get h0) ?_ (by omega)
    wtm_at "gs"
    refine w_ixn (k := at_ + 3 * i + 1) (.l (s _ _ hr)) (iv_get h1) ?_ (by omega)
    wtm_at "gs"
    have rest : ∀ (D : Ends), (∀ w, Val many w → D.nx [some (.ref r), some (.int at_), some (.int cnt), some (.int many), some (.int dense), some (.ref l), some (.int (i : Int)), some (.int w0), some (.int w1)] (upd H' l (.lst (iv ws ++ [.int w])))) →
        tIfS (tTest (tOp rEq (tVar 7) (tC (.int 7)))) (tDrop (tBM K "list" rAppend (tVar 5) (tCons (tC (.int 0)) tNil))) (tIfS (tTest (tOp rEq (tVar 7) (tC (.int 6)))) (tDrop (tBM K "list" rAppend (tVar 5) (tCons (tOp rSubI (tOp rMulI (tC (.int 2)) (tOp (rIx K) (tVar 0) (tOp rAddI (tOp rAddI (tVar 1) (tOp rMulI (tC (.int 3)) (tVar 6))) (tC (.int 2))))) (tC (.int 4294967295))) tNil))) (tDrop (tBM K "list" rAppend (tVar 5) (tCons (tOp rSubI (tOp rMulI (tC (.int 2)) (tOp rModI (tCB rIntQ (tCons (tVar 8) tNil)) (tC (.int 15)))) (tC (.int 1))) tNil)))) D
          [some (.ref r), some (.int at_), some (.int cnt), some (.int many), some (.int dense), some (.ref l), some (.int (i : Int)), some (.int w0), some (.int w1)] H' := by
      rintro ⟨n, rr, b, c⟩ k
      wtm_at "gs"
      refine itd (fun e => ?_) (fun e => ?_)
      · wtm_at "gs"
        refine ⟨tyL hL, ?_⟩
        wtm_at "gs"
        refine w_append hL hz (k 0 (.inr (.inl rfl)))
      · wtm_at "gs"
        refine itd (fun e => ?_) (fun e => ?_)
        · wtm_at "gs"
          refine ⟨tyL hL, ?_⟩
          wtm_at "gs"
          refine w_ixn (k := at_ + 3 * i + 2) (.l (s _ _ hr)) (iv_get h2) ?_ (by omega)
          wtm_at "gs"
          refine w_append hL hz (k _ (.inl (by omega)))
        · wtm_at "gs"
          refine ⟨tyL hL, ?_⟩
          wtm_at "gs"
          refine w_append hL hz (k _ (.inl (by omega)))
    refine itd (fun e => ?_) (fun e => ?_)
    · wtm_at "gs"
      refine itd (fun e2 => ?_) (fun e2 => ?_)
      · wtm_at "gs"
        refine ⟨tyL hL, ?_⟩
        wtm_at "gs"
        refine w_append hL hz ?_
        have m := mod_in w1 e2
        refine fin _ (.inr (.inr ⟨(w1 % (many : Int)).toNat, by omega, by omega⟩)) _ ⟨_, _, _, rfl⟩
      · exact rest _ fun w hw => fin w hw _ ⟨_, _, _, rfl⟩
    · refine iteF ?_
      exact rest _ fun w hw => fin w hw _ ⟨_, _, _, rfl⟩
  · rintro σ' H' ⟨y, u, v, ws, rfl, s, hL, hn, hv⟩
    wtm_at "gs"
    exact q H' l ws s nl hL (by omega) hv
/-! ### .. what is held, by the law -/
structure WorkL (H0 H' : Hp) (o d : Addr) (L : List Int) : Prop where
  sm : Same H0 H'
  lo : H' o = some (.lst (iv L))
  di : ∃ F, IDict H' d F L.length ∧ ∀ w : Int, 0 < w → w % 2 = 0 → (F w).isSome = decide (w / 2 - 1 ∈ L)
def t_hin (K : PySem.W.Frag) : TS :=
  tIfS (tAnd (tTest (tOp rGtI (tVar 5) (tC (.int 0)))) (tAnd (tTest (tOp rEq (tOp rModI (tCB rIntQ (tCons (tVar 5) tNil)) (tC (.int 2))) (tC (.int 0)))) (tB (tDNotIn (tVar 5) (tVar 3))))) (tSeq (sDPut (tVar 3) (tVar 5) (tC (.bl true)))
    (tDrop (tBM K "list" rAppend (tVar 2) (tCons (tOp rSubI (tOp rDivI (tVar 5) (tC (.int 2))) (tC (.int 1))) tNil)))) tNext
theorem refs_snoc (ws : List Int) (w : Int) : refs (ws ++ [w]) = refs ws ++ (refOf w).toList := by
  unfold refs
  rw [List.filterMap_append, filterMap_one]
theorem refOf_pos {w : Int} (h0 : 0 < w) (h1 : w % 2 = 0) : refOf w = some (w / 2 - 1) := by
  unfold refOf
  rw [if_pos ⟨h1, by omega⟩]
theorem refOf_no {n : Nat} {w : Int} (hv : Val n w) (h : ¬ (0 < w ∧ w % 2 = 0)) : refOf w = none := by
  cases e : refOf w with
  | none => rfl
  | some k => exact absurd (hv.pos.mpr ⟨k, e⟩) h
theorem held_row {K : PySem.W.Frag} {H0 H' : Hp} {o d a : Addr} {L ws : List Int} {n : Nat} (W : WorkL H0 H' o d L) (no : H0 o = none) (nd : H0 d = none) (nod : o ≠ d) (ha : Sq K H0 a (iv ws)) (hv : Vals' n ws) (hl : L.length + ws.length ≤ 1000000)
    {nx : L2.St → Hp → Prop} {r : VK} {b c : L2.St → Hp → Prop} {x y rv w0 k : Option V} (q : ∀ H'' w, WorkL H0 H'' o d (meetN nobar L (refs ws)) → nx [x, y, some (.ref o), some (.ref d), rv, w, k] H'') :
    rSeqIt K (ForK (gName 5) (t_hin K) ⟨nx, r, b, c⟩ [x, y, some (.ref o), some (.ref d), rv, w0, k]) (.ref a) H' := by
  refine f_seq0 ha (fun i σ' H' => ∃ w, σ' = [x, y, some (.ref o), some (.ref d), rv, w, k] ∧ WorkL H0 H' o d (meetN nobar L (refs (ws.take i)))) ⟨w0, rfl, W⟩ (fun i σ' H' ⟨_, _, W⟩ => W.sm) ?_ ?_
  · rintro i z σ2 H2 hz ⟨w', rfl, W2⟩
    obtain ⟨w, hw, rfl⟩ := iv_at hz
    have hvw := hv w (List.mem_of_getElem? hw)
    have er := refs_snoc (ws.take i) w
    rw [← take_get hw] at er
    obtain ⟨F, hd, hF⟩ := W2.di
    have hlen := (meetN_len nobar (refs (ws.take i)) L).1
    have hlen2 := refs_len (ws.take i)
    rw [List.length_take] at hlen2
    have same : ¬ (0 < w ∧ w % 2 = 0) → ∃ w1, [x, y, some (.ref o), some (.ref d), rv, some (.int w), k] = [x, y, some (.ref o), some (.ref d), rv, w1, k] ∧ WorkL H0 H2 o d (meetN nobar L (refs (ws.take (i + 1)))) := fun c => by
      refine ⟨_, rfl, ?_⟩
      rw [er, refOf_no hvw c, Option.toList_none, List.append_nil]
      exact W2
    unfold t_hin
    wtm_at "gs"
    refine itd (fun e => ?_) (fun e => ?_)
    · wtm_at "gs"
      refine itd (fun e2 => ?_) (fun e2 => ?_)
      · wtm_at "gs"
        refine ⟨d, _, rfl, hd.get w, ?_⟩
        wtm_at "gs"
        rw [hF w e e2]
        have em : meetN nobar L (refs (ws.take (i + 1))) = meet1 nobar (meetN nobar L (refs (ws.take i))) (w / 2 - 1) := by
          rw [er, refOf_pos e e2, Option.toList_some, meetN_snoc]
        refine itnd (fun e3 => ?_) (fun e3 => ?_)
        · have em2 : meetN nobar L (refs (ws.take (i + 1))) = meetN nobar L (refs (ws.take i)) ++ [w / 2 - 1] := by
            rw [em]
            unfold meet1
            rw [if_neg]
            rintro (z | z)
            · cases z
            · exact e3 z
          wtm_at "gs"
          obtain ⟨od, dp, hD2, kvs, rfl⟩ := hd.put (by omega) w (.bl true)
          refine ⟨d, _, rfl, dp, ?_⟩
          wtm_at "gs"
          refine ⟨tyL (get_ne W2.lo nod), ?_⟩
          wtm_at "gs"
          refine w_append (get_ne W2.lo nod) ?_ ?_
          · rw [iv_len]
            omega
          · refine ⟨_, rfl, same_mut (same_mut W2.sm nd) no, ?_, fput F w (.bl true), ?_, fun v h0 h1 => ?_⟩
            · rw [em2]
              exact upd_same.trans (iv_snoc _ _)
            · rw [em2, List.length_append]
              exact hD2 _ (get_ne upd_same nod.symm)
            · rw [em2]
              unfold fput
              by_cases z : v = w
              · subst z
                rw [if_pos rfl, decide_eq_true (List.mem_append.mpr (.inr List.mem_cons_self))]
                rfl
              · rw [if_neg z, hF v h0 h1]
                refine decide_eq_decide.mpr ⟨fun m => List.mem_append.mpr (.inl m), fun m => ?_⟩
                rcases List.mem_append.mp m with m | m
                · exact m
                · have := List.mem_singleton.mp m
                  omega
        · wtm_at "gs"
          refine ⟨_, rfl, ?_⟩
          rw [em]
          unfold meet1
          rw [if_pos (.inr e3)]
          exact W2
      · wtm_at "gs"
        exact same fun z => e2 z.2
    · refine iteF ?_
      wtm_at "gs"
      exact same fun z => e z.1
  · rintro σ2 H2 ⟨w, rfl, W2⟩
    rw [iv_len, List.take_length] at W2
    exact q _ _ W2
theorem len__law_held (K : PySem.W.Frag) (vs : List V) (H : Hp) (Q : VK) (E : XK) (h : sp__law_held K vs H Q E) : vs.length = (["_law_rows", "_law_objects"] : List Str).length := by
  obtain ⟨x, y, rows, objs, n, B, rfl, _⟩ := h
  rfl
theorem pure__law_held (K : PySem.W.Frag) (vs : List V) (H : Hp) (Q : VK) (E : XK) (h : sp__law_held K vs H Q E) : t__law_held K { nx := fun _ H' => Q .non H', rt := Q } (start ["_law_rows", "_law_objects", "_law_order", "_law_known", "_law_row", "_law_word", "_law_k"] vs) H := by
  obtain ⟨x, y, rows, objs, n, B, rfl, ⟨a, xs, rfl, ha, hR⟩, ⟨a2, ys, rfl, ha2, hO⟩, hn, hn2, hB, hr, ho, q⟩ := h
  have hr' : ∀ ws ∈ rows, Vals' n ws := fun ws h => (hr ws h).1
  have hq' : ∀ ws ∈ objs.map (·.2), Vals' n ws := fun ws h => by
    obtain ⟨o, h1, rfl⟩ := List.mem_map.mp h
    exact (ho o h1).1
  unfold t__law_held
  wtm_at "gs"
  refine newL (by simp) fun o H1 no s1 ho1 => ?_
  wtm_at "gs"
  refine w_dnew fun d H2 nd s2 hd => ?_
  wtm_at "gs"
  have nod : o ≠ d := ne_of_none ho1 nd
  have nd0 : H d = none := s1.free nd
  have sml : ∀ k, (heldN nobar rows (objs.map (·.2)) k).length ≤ n := heldN_small hr' hq'
  refine f_seq0 ha (fun i σ' H' => ∃ rv w, σ' = [some (.ref a), some (.ref a2), some (.ref o), some (.ref d), rv, w, none] ∧ WorkL H H' o d (heldR nobar rows i)) ⟨none, none, rfl, s1.trans s2, s2 _ _ ho1, _, .new hd, fun w _ _ => by
    show false = decide (w / 2 - 1 ∈ ([] : List Int))
    simp⟩ (fun i σ' H' ⟨_, _, _, W⟩ => W.sm) ?_ ?_
  · rintro i z σ' H' hz ⟨rv, w, rfl, W⟩
    obtain ⟨ws, hws, b, rfl, hb⟩ := pgetL hR hz
    have hm := List.mem_of_getElem? hws
    wtm_at "gs"
    have hsm := heldR_small (bar := nobar) hr' i
    refine held_row W no nd0 nod hb (hr' ws hm) (by have := (hr ws hm).2; omega) fun H'' w2 W2 => ?_
    refine ⟨_, _, rfl, ?_⟩
    rw [heldR_snoc hws]
    exact W2
  · rintro σ' H' ⟨rv, w, rfl, W⟩
    rw [hR.length] at W
    have e0 : heldR nobar rows rows.length = heldN nobar rows (objs.map (·.2)) 0 := by
      unfold heldR
      rw [List.take_length]
      rfl
    rw [e0] at W
    wtm_at "gs"
    refine f_rng (by omega) (fun k σ' H' => ∃ rv w kv, σ' = [some (.ref a), some (.ref a2), some (.ref o), some (.ref d), rv, w, kv] ∧ k ≤ (heldN nobar rows (objs.map (·.2)) k).length ∧ WorkL H H' o d (heldN nobar rows (objs.map (·.2)) k))
      ⟨_, _, none, rfl, Nat.zero_le _, W⟩ ?_ ?_
    · rintro k σ' H' hk ⟨rv, w, kv, rfl, hle, W⟩
      have hs := sml k
      wtm_at "gs"
      refine w_len (.l W.lo) ?_
      wtm_at "gs"
      rw [iv_len]
      refine itd (fun e => ?_) (fun e => ?_)
      · wtm_at "gs"
        refine q H' o _ W.sm no W.lo ?_
        have ek : (heldN nobar rows (objs.map (·.2)) k).length = k := by omega
        unfold Held
        rw [ek]
      · have hk1 : k < (heldN nobar rows (objs.map (·.2)) k).length := by omega
        obtain ⟨j, hj⟩ : ∃ j, (heldN nobar rows (objs.map (·.2)) k)[k]? = some j := ⟨_, List.getElem?_eq_getElem hk1⟩
        have hjr := heldN_in hr' hq' k j (List.mem_of_getElem? hj)
        obtain ⟨ob, hob⟩ : ∃ ob, objs[j.toNat]? = some ob := ⟨_, List.getElem?_eq_getElem (by omega)⟩
        obtain ⟨v, hv, a5, x5, rfl, g5, a6, rfl, g6⟩ := pget hO hob
        have hm := List.mem_of_getElem? hob
        wtm_at "gs"
        refine w_ixn (.l W.lo) (iv_get hj) ?_
        wtm_at "gs"
        refine w_ix (ha2.same W.sm) (at_int (show j = ((j.toNat : Nat) : Int) by omega) hv) ?_
        wtm_at "gs"
        refine w_ixn (k := 1) (g5.same W.sm) rfl ?_
        wtm_at "gs"
        refine held_row W no nd0 nod g6 (ho ob hm).1 (by have := (ho ob hm).2; omega) fun H'' w2 W2 => ?_
        have epay : payload (objs.map (·.2)) j = ob.2 := by
          unfold payload
          rw [List.getElem?_map, hob]
          rfl
        have e1 : heldN nobar rows (objs.map (·.2)) (k + 1) = meetN nobar (heldN nobar rows (objs.map (·.2)) k) (refs ob.2) := by
          show heldS _ _ _ _ = _
          rw [heldS_some hj, epay]
        rw [← e1] at W2
        refine ⟨_, _, _, rfl, ?_, W2⟩
        have := heldN_len (bar := nobar) (rows := rows) (objs := objs.map (·.2)) (show k ≤ k + 1 by omega)
        omega
    · rintro σ' H' ⟨rv, w, kv, rfl, hle, W⟩
      have hs := sml (100000 : Int).toNat
      have e : (100000 : Int).toNat = 100000 := by decide
      rw [e] at hle hs
      omega
/-! ### .. the rows of parts, numbering anew -/
theorem len__law_root_rows (K : PySem.W.Frag) (vs : List V) (H : Hp) (Q : VK) (E : XK) (h : sp__law_root_rows K vs H Q E) : vs.length = (["_law_parts"] : List Str).length := by
  obtain ⟨a, a1, x0, x2, x3, x4, fs, qs, rfl, _⟩ := h
  rfl
theorem pure__law_root_rows (K : PySem.W.Frag) (vs : List V) (H : Hp) (Q : VK) (E : XK) (h : sp__law_root_rows K vs H Q E) : t__law_root_rows K { nx := fun _ H' => Q .non H', rt := Q } (start ["_law_parts", "_law_rows", "_law_frame"] vs) H := by
  obtain ⟨a, a1, x0, x2, x3, x4, fs, qs, rfl, ha, ha1, hl, hP, q⟩ := h
  have eql := hP.length
  unfold t__law_root_rows
  wtm_at "gs"
  refine w_ixn (k := 0) ha rfl ?_
  wtm_at "gs"
  refine newL (by simp) fun p H1 np s1 hp => ?_
  wtm_at "gs"
  refine w_ixn (k := 1) (ha.same s1) rfl ?_
  refine f_seq0 ha1 (fun i σ' H' => ∃ (p : Addr) (y : Option V), σ' = [some (.ref a), some (.ref p), y] ∧ Same H H' ∧ H p = none ∧ H' p = some (.lst ([x0] ++ (qs.take i).flatMap fun q => [q.1, q.2]))) ⟨p, none, rfl, s1, np, hp⟩ (fun i σ' H' ⟨_, _, _, s, _⟩ => s) ?_ ?_
  · rintro i z σ' H' hz ⟨p, y, rfl, s, np, hp⟩
    obtain ⟨q2, hq2, b, nm, pl, rfl, hb⟩ := pgetL hP hz
    have hi : i < qs.length := (List.getElem?_eq_some_iff.mp hq2).1
    wtm_at "gs"
    refine w_ixn (k := 2) (hb.same s) rfl ?_
    wtm_at "gs"
    refine w_ixn (k := 3) (hb.same s) rfl ?_
    wtm_at "gs"
    refine newL (by simp) fun t H2 nt s2 ht => ?_
    refine w_cat (s2 _ _ hp) ht ?_ fun u H3 nu s3 hu => ?_
    · rw [List.length_append, flat_len, List.length_take]
      show 1 + 2 * min i qs.length + 2 ≤ _
      omega
    wtm_at "gs"
    refine ⟨u, _, rfl, s.trans (s2.trans s3), s.free (s2.free nu), ?_⟩
    rw [hu, flat_take hq2]
    simp only [List.append_assoc, List.singleton_append, List.cons_append, List.nil_append]
  · rintro σ' H' ⟨p, y, rfl, s, np, hp⟩
    rw [eql, List.take_length] at hp
    wtm_at "gs"
    refine w_ixn (k := 2) (ha.same s) rfl ?_
    wtm_at "gs"
    refine w_ixn (k := 3) (ha.same s) rfl ?_
    wtm_at "gs"
    refine newL (by simp) fun t H2 nt s2 ht => ?_
    refine w_cat (s2 _ _ hp) ht ?_ fun u H3 nu s3 hu => ?_
    · rw [List.length_append, flat_len]
      show 1 + 2 * qs.length + 2 ≤ _
      omega
    exact q H3 u (s.trans (s2.trans s3)) (s.free (s2.free nu)) hu
/-- the rows of parts, called by someone who knows the picture -/
theorem call_rows {K : PySem.W.Frag} {H : Hp} {x : V} {P : Pic} {Q : VK} {S0 S : Addr → List V → Prop} (m0 : ∀ a xs, S0 a xs → SQ K H a xs) (m : ∀ a xs, S a xs → SQ K H a xs) (h : RP S0 S x P) (hf : P.frames.length ≤ 100000)
    (q : ∀ H' p xs, Same H H' → H p = none → H' p = some (.lst xs) → Paired (RI S) xs P.rows → Q (.ref p) H') : sp__law_root_rows K [x] H Q E0 := by
  obtain ⟨a, x0, x1, x2, x3, x4, rfl, ha, h0, ⟨a1, xs, rfl, g1, pf⟩, h2, h3, h4⟩ := h
  obtain ⟨qs, pq, pr⟩ := rf_rows pf
  refine ⟨a, a1, x0, x2, x3, x4, xs, qs, rfl, m0 _ _ ha, m _ _ g1, by rw [pf.length]; exact hf, Paired.mapP pq fun y q ⟨b, n, p, e, hb⟩ => ⟨b, n, p, e, m _ _ hb⟩, fun H' p s np hp => q H' p _ s np hp ?_⟩
  unfold Pic.rows
  exact papp (papp (.cons h0 .nil) pr) (.cons h2 (.cons h3 .nil))
theorem len__law_numbered (K : PySem.W.Frag) (vs : List V) (H : Hp) (Q : VK) (E : XK) (h : sp__law_numbered K vs H Q E) : vs.length = (["_law_parts"] : List Str).length := by
  obtain ⟨x, P, n, B, rfl, _⟩ := h
  rfl
theorem spot_get {L : List Int} (nd : L.Nodup) {i : Nat} {x : Int} (h : L[i]? = some x) : spot L x = (i : Int) := by
  unfold spot
  obtain ⟨hi, e⟩ := List.getElem?_eq_some_iff.mp h
  rw [← e, nd.idxOf_getElem i hi]
/-- the dict of the new numbers -/
theorem spots_for {L : List Int} {F : Int → Option V} (nd : L.Nodup) (hF : ∀ (j : Nat) x, L[j]? = some x → F x = some (.int (j : Int))) {x : Int} (h : x ∈ L) : F x = some (.int (spot L x)) := by
  obtain ⟨i, hi⟩ := List.mem_iff_getElem?.mp h
  rw [spot_get nd hi]
  exact hF i x hi
theorem turn_ok {n : Nat} {L ws : List Int} {F : Int → Option V} (hv : Vals' n ws) (hin : ∀ k ∈ refs ws, k ∈ L) (hF : ∀ x ∈ L, F x = some (.int (spot L x))) : ∀ w ∈ ws, 0 < w ∧ w % 2 = 0 → F (w / 2 - 1) = some (.int (spot L (w / 2 - 1))) := fun w hw c =>
  hF _ (hin _ (refs_mem.mpr ⟨w, hw, refOf_pos c.1 c.2⟩))
theorem pure__law_numbered (K : PySem.W.Frag) (vs : List V) (H : Hp) (Q : VK) (E : XK) (h : sp__law_numbered K vs H Q E) : t__law_numbered K { nx := fun _ H' => Q .non H', rt := Q } (start ["_law_parts", "_law_order", "_law_spots", "_law_k", "_law_frames", "_law_objects", "_law_frame"] vs) H := by
  obtain ⟨x, P, n, B, rfl, hP, VP, hn, hB, q⟩ := h
  have hr : ∀ ws ∈ P.rows, Vals' n ws := fun ws h => (VP.rows ws h).1
  have hq : ∀ ws ∈ P.pays, Vals' n ws := fun ws h => (VP.pays ws h).1
  unfold t__law_numbered
  wtm_at "gs"
  refine call_rows (fun _ _ h => h) (fun _ _ h => h) hP (Nat.le_trans VP.frs (by omega)) fun H1 p xs s1 np hp pr => ?_
  wtm_at "gs"
  obtain ⟨a, x0, x1, x2, x3, x4, rfl, ha, h0, h1, h2, h3, h4⟩ := hP
  refine w_ixn (k := 4) (ha.same s1) rfl ?_
  wtm_at "gs"
  refine ⟨.ref p, x4, P.rows, P.objs, n, B, rfl, ⟨p, xs, rfl, .l hp, Paired.mapP pr fun _ _ z => z.mono (sq_m s1)⟩, h4.mono (sq_m s1), VP.cnt, hn, by omega, VP.rows, fun o ho => VP.pays o.2 (List.mem_map.mpr ⟨o, ho, rfl⟩), fun H2 o L s2 no ho hL => ?_⟩
  wtm_at "gs"
  refine w_dnew fun d H3 nd s3 hd => ?_
  wtm_at "gs"
  refine w_len (.l (s3 _ _ ho)) ?_
  wtm_at "gs"
  have hsmall := hL.small hr hq
  have s03 : Same H H3 := s1.trans (s2.trans s3)
  have nod : o ≠ d := ne_of_none ho nd
  have no0 : H o = none := s1.free no
  have nd0 : H d = none := (s1.trans s2).free nd
  rw [iv_len]
  refine f_rng (by omega) (fun i σ' H' => ∃ (y : Option V) (F : Int → Option V), σ' = [some (.ref a), some (.ref o), some (.ref d), y, none, none, none] ∧ Same H H' ∧ H' o = some (.lst (iv L)) ∧ IDict H' d F i ∧ ∀ (j : Nat) x, j < i → L[j]? = some x → F x = some (.int (j : Int)))
    ⟨none, _, rfl, s03, s3 _ _ ho, .new hd, fun j x h => by omega⟩ ?_ ?_
  · rintro i σ' H' hi ⟨y, F, rfl, s, hO, hD, hF⟩
    obtain ⟨w, hw⟩ : ∃ w, L[i]? = some w := ⟨_, List.getElem?_eq_getElem (by omega)⟩
    wtm_at "gs"
    refine w_ixn (.l hO) (iv_get hw) ?_
    obtain ⟨od, dp, hD2, kvs, rfl⟩ := hD.put (by omega) w (.int (i : Int))
    refine ⟨d, _, rfl, dp, _, fput F w (.int (i : Int)), rfl, same_mut s nd0, get_ne hO nod, hD2 _ upd_same, fun j x hj hx => ?_⟩
    unfold fput
    by_cases z : x = w
    · subst z
      rw [if_pos rfl]
      congr 2
      have h1 := (List.getElem?_eq_some_iff.mp hx)
      have h2 := (List.getElem?_eq_some_iff.mp hw)
      obtain ⟨l1, e1⟩ := h1
      obtain ⟨l2, e2⟩ := h2
      have := (List.getElem_inj hL.nd).mp (e1.trans e2.symm)
      omega
    · rw [if_neg z]
      refine hF j x ?_ hx
      by_cases z2 : j = i
      · subst z2
        rw [hw] at hx
        exact absurd (Option.some.inj hx).symm z
      · omega
  rintro σ' H' ⟨y, F, rfl, s, hO, hD, hF⟩
  have hF2 : ∀ x ∈ L, F x = some (.int (spot L x)) := fun x hx => spots_for hL.nd (fun j x h => hF j x (by
    have := (List.getElem?_eq_some_iff.mp h).1
    omega) h) hx
  have tk : ∀ ws ∈ P.rows, ∀ w ∈ ws, 0 < w ∧ w % 2 = 0 → F (w / 2 - 1) = some (.int (spot L (w / 2 - 1))) := fun ws h => turn_ok (hr ws h) (fun k hk => hL.rows_in h hk rfl) hF2
  have tkp : ∀ j ∈ L, ∀ w ∈ payload P.pays j, 0 < w ∧ w % 2 = 0 → F (w / 2 - 1) = some (.int (spot L (w / 2 - 1))) := fun j hj => turn_ok (n := n) (fun w hw => by
    obtain ⟨ws, h1, h2⟩ := payload_mem hw
    exact hq ws h1 w h2) (fun k hk => hL.pays_in hj hk rfl) hF2
  clear hF
  have hB2 : ∀ ws ∈ P.rows, ws.length ≤ 100000 := fun ws h => Nat.le_trans (VP.rows ws h).2 (by omega)
  have m_st : P.statics ∈ P.rows := List.mem_append.mpr (.inl (List.mem_append.mpr (.inl List.mem_cons_self)))
  have m_wa : P.watched ∈ P.rows := List.mem_append.mpr (.inr List.mem_cons_self)
  have m_pa : P.parted ∈ P.rows := List.mem_append.mpr (.inr (List.mem_cons_of_mem _ List.mem_cons_self))
  have m_fr : ∀ f ∈ P.frames, f.slots ∈ P.rows ∧ f.stack ∈ P.rows := fun f hf => ⟨List.mem_append.mpr (.inl (List.mem_append.mpr (.inr (List.mem_flatMap.mpr ⟨f, hf, List.mem_cons_self⟩)))), List.mem_append.mpr (.inl (List.mem_append.mpr (.inr (List.mem_flatMap.mpr ⟨f, hf, List.mem_cons_of_mem _ List.mem_cons_self⟩))))⟩
  -- the frames
  wtm_at "gs"
  refine w_ixn (k := 1) (ha.same s) rfl ?_
  obtain ⟨a1, fs, rfl, g1, pf⟩ := h1
  refine l_seq0 g1 s (fun D i H2 => Same H' H2 ∧ ∃ ys, H2 D = some (.lst ys) ∧ Paired (RF (ST K H2)) ys ((relabel P L).frames.take i)) (fun D nD => ⟨same_new nD, [], upd_same, .nil⟩) (fun D i H2 nD hP => s.trans hP.1) ?_ ?_
  · rintro D i z H2 nD hz ⟨sD, ys, hD2, hY⟩
    obtain ⟨f, hf, b, u, v, rfl, hb, hu, hv⟩ := pgetL pf hz
    have sH : Same H H2 := s.trans sD
    have hm := m_fr f (List.mem_of_getElem? hf)
    have hb2 := hb.same sH
    have hlen : ys.length ≤ 100000 := by
      rw [hY.length, List.length_take]
      show min i (P.frames.map _).length ≤ _
      rw [List.length_map]
      have := VP.frs
      omega
    wtm_at "gs"
    refine ⟨rfl, ?_⟩
    wtm_at "gs"
    refine w_ixn (k := 0) hb2 rfl ?_
    wtm_at "gs"
    refine w_ixn (k := 1) hb2 rfl ?_
    wtm_at "gs"
    refine w_ixn (k := 2) hb2 rfl ?_
    wtm_at "gs"
    refine ⟨u, f.slots, d, F, _, spot L, rfl, hu.mono (sq_m sH), hB2 _ hm.1, hD.same sD, tk _ hm.1, fun H3 y1 s3 k1 => ?_⟩
    wtm_at "gs"
    refine w_ixn (k := 3) (hb2.same s3) rfl ?_
    wtm_at "gs"
    refine ⟨v, f.stack, d, F, _, spot L, rfl, hv.mono (sq_m (sH.trans s3)), hB2 _ hm.2, hD.same (sD.trans s3), tk _ hm.2, fun H4 y2 s4 k2 => ?_⟩
    wtm_at "gs"
    refine newT (by simp) fun t H5 nt s5 ht => ?_
    have e5 := s5 _ _ (s4 _ _ (s3 _ _ hD2))
    refine kept e5 (by omega) ⟨same_mut (sD.trans (s3.trans (s4.trans s5))) nD, _, upd_same, ?_⟩
    have ef : (relabel P L).frames[i]? = some ⟨f.name, f.place, turns (spot L) f.slots, turns (spot L) f.stack⟩ := by
      show (P.frames.map _)[i]? = _
      rw [List.getElem?_map, hf]
      rfl
    rw [take_get ef]
    have m5 := st_upd (K := K) (ys := ys ++ [.ref t]) e5
    exact papp (Paired.mapP hY fun _ _ z => z.mono fun a xs z => m5 _ _ (st_m s5 _ _ (st_m s4 _ _ (st_m s3 _ _ z)))) (.cons ⟨t, y1, y2, rfl, m5 _ _ (.of ht), k1.mono fun a xs z => m5 _ _ (st_m s5 _ _ (st_m s4 _ _ z)), k2.mono fun a xs z => m5 _ _ (st_m s5 _ _ z)⟩ .nil)
  rintro Df H2 nDf ⟨sF, yf, hDf, hYf⟩
  have elf : fs.length = (relabel P L).frames.length := by
    rw [pf.length]
    show _ = (P.frames.map _).length
    rw [List.length_map]
  rw [elf, List.take_length] at hYf
  -- the objects
  wtm_at "gs"
  refine l_seq (.l (sF _ _ hO)) (fun D i H3 => Same H2 H3 ∧ ∃ ys, H3 D = some (.lst ys) ∧ Paired (RO (ST K H3)) ys ((relabel P L).objs.take i)) (fun D nD => ⟨same_new nD, [], upd_same, .nil⟩) (fun D i H3 nD hP => .same hP.1) ?_ ?_
  · rintro D i z H3 nD hz ⟨sD, ys, hD2, hY⟩
    obtain ⟨j, hj, rfl⟩ := iv_at hz
    have jm := List.mem_of_getElem? hj
    have jr := hL.in_ hr hq j jm
    have sH : Same H H3 := s.trans (sF.trans sD)
    obtain ⟨a4, os, rfl, g4, po⟩ := id h4
    obtain ⟨ob, hob⟩ : ∃ ob, P.objs[j.toNat]? = some ob := ⟨_, List.getElem?_eq_getElem (by have := VP.cnt; omega)⟩
    obtain ⟨v, hv, b, c, rfl, g5, hc⟩ := pget po hob
    have epay : payload P.pays j = ob.2 := by
      unfold payload Pic.pays
      rw [List.getElem?_map, hob]
      rfl
    have hlen : ys.length ≤ 100000 := by
      rw [hY.length, List.length_take]
      show min i (L.map _).length ≤ _
      rw [List.length_map]
      omega
    wtm_at "gs"
    refine ⟨rfl, ?_⟩
    wtm_at "gs"
    refine w_ixn (k := 4) (ha.same sH) rfl ?_
    wtm_at "gs"
    refine w_ix (g4.same sH) (at_int (show j = ((j.toNat : Nat) : Int) by omega) hv) ?_
    wtm_at "gs"
    refine w_ixn (k := 0) (g5.same sH) rfl ?_
    wtm_at "gs"
    refine w_ixn (k := 4) (ha.same sH) rfl ?_
    wtm_at "gs"
    refine w_ix (g4.same sH) (at_int (show j = ((j.toNat : Nat) : Int) by omega) hv) ?_
    wtm_at "gs"
    refine w_ixn (k := 1) (g5.same sH) rfl ?_
    wtm_at "gs"
    refine ⟨c, ob.2, d, F, _, spot L, rfl, hc.mono (sq_m sH), Nat.le_trans (VP.pays ob.2 (List.mem_map.mpr ⟨ob, List.mem_of_getElem? hob, rfl⟩)).2 (by omega), hD.same (sF.trans sD), by rw [← epay]; exact tkp j jm, fun H4 y1 s4 k1 => ?_⟩
    wtm_at "gs"
    refine newT (by simp) fun t H5 nt s5 ht => ?_
    have e5 := s5 _ _ (s4 _ _ hD2)
    refine kept e5 (by omega) ⟨same_mut (sD.trans (s4.trans s5)) nD, _, upd_same, ?_⟩
    have ef : (relabel P L).objs[i]? = some (ob.1, turns (spot L) ob.2) := by
      show (L.map _)[i]? = _
      rw [List.getElem?_map, hj]
      show some ((((P.objs[j.toNat]?).map (·.1)).getD nm0, turns (spot L) (payload P.pays j)) : Nm × List Int) = _
      rw [epay, hob]
      rfl
    rw [take_get ef]
    have m5 := st_upd (K := K) (ys := ys ++ [.ref t]) e5
    exact papp (Paired.mapP hY fun _ _ z => z.mono fun a xs z => m5 _ _ (st_m s5 _ _ (st_m s4 _ _ z))) (.cons ⟨t, y1, rfl, m5 _ _ (.of ht), k1.mono fun a xs z => m5 _ _ (st_m s5 _ _ z)⟩ .nil)
  rintro Do H3 nDo ⟨sO, yo, hDo, hYo⟩
  have elo : (iv L).length = (relabel P L).objs.length := by
    rw [iv_len]
    show _ = (L.map _).length
    rw [List.length_map]
  rw [elo, List.take_length] at hYo
  have sH : Same H H3 := s.trans (sF.trans sO)
  have dH := hD.same (sF.trans sO)
  wtm_at "gs"
  refine w_ixn (k := 0) (ha.same sH) rfl ?_
  wtm_at "gs"
  refine ⟨x0, P.statics, d, F, _, spot L, rfl, h0.mono (sq_m sH), hB2 _ m_st, dH, tk _ m_st, fun H4 y0 s4 k0 => ?_⟩
  wtm_at "gs"
  refine w_tuple (.l (s4 _ _ (sO _ _ hDf))) fun tf H5 s5 kf => ?_
  wtm_at "gs"
  have sH5 : Same H H5 := sH.trans (s4.trans s5)
  refine w_ixn (k := 2) (ha.same sH5) rfl ?_
  wtm_at "gs"
  refine ⟨x2, P.watched, d, F, _, spot L, rfl, h2.mono (sq_m sH5), hB2 _ m_wa, dH.same (s4.trans s5), tk _ m_wa, fun H6 y2 s6 k2 => ?_⟩
  wtm_at "gs"
  refine w_ixn (k := 3) (ha.same (sH5.trans s6)) rfl ?_
  wtm_at "gs"
  refine ⟨x3, P.parted, d, F, _, spot L, rfl, h3.mono (sq_m (sH5.trans s6)), hB2 _ m_pa, dH.same (s4.trans (s5.trans s6)), tk _ m_pa, fun H7 y3 s7 k3 => ?_⟩
  wtm_at "gs"
  refine w_tuple (.l (s7 _ _ (s6 _ _ (s5 _ _ (s4 _ _ hDo))))) fun tobj H8 s8 ko => ?_
  wtm_at "gs"
  refine newL (by simp) fun r H9 nr s9 hr9 => ?_
  have s89 := s8.trans s9
  refine q H9 (.ref r) (relabel P L) (sH5.trans (s6.trans (s7.trans s89))) ⟨r, y0, .ref tf, y2, y3, .ref tobj, rfl, hr9, k0.mono (st_m (s5.trans (s6.trans (s7.trans s89)))), ⟨tf, yf, rfl, st_m (s6.trans (s7.trans s89)) _ _ kf, Paired.mapP hYf fun _ _ z => z.mono (st_m (sO.trans (s4.trans (s5.trans (s6.trans (s7.trans s89))))))⟩,
    k2.mono (st_m (s7.trans s89)), k3.mono (st_m s89), ⟨tobj, yo, rfl, st_m s9 _ _ ko, Paired.mapP hYo fun _ _ z => z.mono (st_m (s4.trans (s5.trans (s6.trans (s7.trans s89)))))⟩⟩ ⟨L, hL, rfl⟩
/-! ### .. linking the drawn objects -/
theorem Mt.less {Hf Hg H : Hp} {A : List Addr} {n B : Nat} (m : Mt Hg H A n B) (s : Same Hf Hg) : Mt Hf H A n B := ⟨s.trans m.sf, fun l hl => s.free (m.fr l hl), m.ok⟩
theorem links_get {Hf : Hp} {l : Addr} {n k : Nat} (h : Links Hf l n) (hk : k < n) : ∃ xs b d0 d1 d2 d3, Hf l = some (.lst xs) ∧ xs[k]? = some (.ref b) ∧ Hf b = some (.lst (iv [d0, d1, d2, d3])) ∧ 0 ≤ d0 ∧ 0 ≤ d1 ∧ d1 < 2 ^ 32 ∧ 0 ≤ d2 := by
  obtain ⟨xs, e, hn, hx⟩ := h
  have hk2 : k < xs.length := by omega
  obtain ⟨b, d0, d1, d2, d3, e1, e2, h1, h2, h3, h4⟩ := hx xs[k] (List.getElem_mem hk2)
  exact ⟨xs, b, d0, d1, d2, d3, e, by rw [List.getElem?_eq_getElem hk2, e1], e2, h1, h2, h3, h4⟩
theorem skel_rows {Hf : Hp} {A : List Addr} : ∀ {fs : List V}, (∀ x ∈ fs, ∃ (a : Addr) (nm : Nm) (pl : Int) (b c : Addr), x = .ref a ∧ Hf a = some (.lst [.str nm.1, .int pl, .ref b, .ref c]) ∧ b ∈ A ∧ c ∈ A) →
    ∃ qs : List (V × V), Paired (fun (x : V) (q : V × V) => ∃ b n p, x = .ref b ∧ Hf b = some (.lst [n, p, q.1, q.2])) fs qs ∧ ∀ v ∈ qs.flatMap (fun q => [q.1, q.2]), ∃ l ∈ A, v = .ref l
  | [], _ => ⟨[], .nil, fun v h => by cases h⟩
  | x :: fs, h => by
    obtain ⟨a, nm, pl, b, c, e, ha, hb, hc⟩ := h x List.mem_cons_self
    obtain ⟨qs, h1, h2⟩ := skel_rows (fs := fs) fun y hy => h y (List.mem_cons_of_mem _ hy)
    refine ⟨(.ref b, .ref c) :: qs, .cons ⟨a, _, _, e, ha⟩ h1, fun v hv => ?_⟩
    rw [List.flatMap_cons] at hv
    rcases List.mem_append.mp hv with hv | hv
    · rcases List.mem_cons.mp hv with hv | hv
      · exact ⟨b, hb, hv⟩
      · exact ⟨c, hc, List.mem_singleton.mp hv⟩
    · exact h2 v hv
/-- the rows of the parts at work: a new list of references to lists at A -/
theorem skel_call {K : PySem.W.Frag} {Hf H : Hp} {A : List Addr} {n m B : Nat} {x : V} {Q : VK} (M : Mt Hf H A n B) (S : Skel Hf x A n m) (hm : m ≤ 1000) (q : ∀ H' r xs, Mt (upd Hf r (.lst xs)) H' A n B → Hf r = none → (∀ v ∈ xs, ∃ l ∈ A, v = .ref l) → 3 ≤ xs.length → xs.length ≤ 3 + 2 * m → Q (.ref r) H') : sp__law_root_rows K [x] H Q E0 := by
  obtain ⟨p, s, f, w, qd, o, fs, os, rfl, hp, hs, hw, hq, hf, hfs, ho, hon, hfm, hos⟩ := S.ex
  obtain ⟨qs, h1, h2⟩ := skel_rows hfs
  have eql := h1.length
  refine ⟨p, f, .ref s, .ref w, .ref qd, .ref o, fs, qs, rfl, .l (M.sf _ _ hp), .l (M.sf _ _ hf), by omega, Paired.mapP h1 fun y q ⟨b, n, p, e, hb⟩ => ⟨b, n, p, e, .l (M.sf _ _ hb)⟩, fun H' r s' nr hr => q H' r _ (M.grow s' nr hr) (M.sf.free nr) (fun v hv => ?_) ?_ ?_⟩
  · rcases List.mem_append.mp hv with hv | hv
    · rcases List.mem_append.mp hv with hv | hv
      · exact ⟨s, hs, List.mem_singleton.mp hv⟩
      · exact h2 v hv
    · rcases List.mem_cons.mp hv with hv | hv
      · exact ⟨w, hw, hv⟩
      · exact ⟨qd, hq, List.mem_singleton.mp hv⟩
  · rw [List.length_append, List.length_append, flat_len]
    show 3 ≤ 1 + 2 * qs.length + 2
    omega
  · rw [List.length_append, List.length_append, flat_len]
    show 1 + 2 * qs.length + 2 ≤ _
    omega
theorem Mt.ins {Hf H : Hp} {A : List Addr} {n B : Nat} {l : Addr} {ws : List Int} {w : Int} (m : Mt Hf H A n B) (hl : l ∈ A) (e : H l = some (.lst (iv ws))) (hv : Vals' n ws) (hb : ws.length ≤ B) (hw : Val n w) (i : Nat) : Mt Hf (upd H l (.lst ((iv ws).take i ++ [.int w] ++ (iv ws).drop i))) A n (B + 1) := by
  have e2 : (iv ws).take i ++ [.int w] ++ (iv ws).drop i = iv (ws.take i ++ [w] ++ ws.drop i) := by
    unfold iv
    rw [List.map_append, List.map_append, List.map_take, List.map_drop]
    rfl
  rw [e2]
  refine m.put hl (fun x hx => ?_) ?_ (by omega)
  · rcases List.mem_append.mp hx with hx | hx
    · rcases List.mem_append.mp hx with hx | hx
      · exact hv x (List.mem_of_mem_take hx)
      · rw [List.mem_singleton.mp hx]
        exact hw
    · exact hv x (List.mem_of_mem_drop hx)
  · rw [List.length_append, List.length_append, List.length_take, List.length_drop]
    show min i ws.length + 1 + (ws.length - i) ≤ B + 1
    omega
section
variable {K : PySem.W.Frag} {Hf H : Hp} {A : List Addr} {n m B k : Nat} {x : V} {lk rp : Addr} {tall narrow woven : Bool} {nx : L2.St → Hp → Prop} {r : VK} {b c : L2.St → Hp → Prop} {y z : Option V} {pr : Int}
/-- the slots of _law_linked -/
abbrev lkS (x : V) (lk : Addr) (tall narrow woven : Bool) (rp : Addr) (k : Nat) (y z : Option V) : L2.St := [some x, some (.ref lk), some (.bl tall), some (.bl narrow), some (.bl woven), some (.ref rp), some (.int (k : Int)), y, z]
def t_lk1 (K : PySem.W.Frag) : TS := (tAsg (tOp rModI (tCB rIntQ (tCons (tOp (rIx K) (tOp (rIx K) (tVar 1) (tVar 6)) (tC (.int 0))) tNil)) (tOp rSubI (tOp rAddI (tVar 6) (tC (.int 1))) (tCB rIntQ (tCons (tAndV (tVar 3) (tOp rGtI (tVar 6) (tC (.int 0)))) tNil)))) (gName 7))
theorem lk1 (M : Mt Hf H A n B) (L : Links Hf lk n) (hk : k < n) (q : ∀ pr : Int, 0 ≤ pr → pr ≤ k → nx (lkS x lk tall narrow woven rp k (some (.int pr)) z) H) : t_lk1 K ⟨nx, r, b, c⟩ (lkS x lk tall narrow woven rp k y z) H := by
  obtain ⟨xs, bl, d0, d1, d2, d3, e1, e2, e3, h0, h1, h12, h2⟩ := links_get L hk
  unfold t_lk1
  wtm_at "gs"
  refine w_ixn (.l (M.sf _ _ e1)) e2 ?_
  wtm_at "gs"
  refine w_ixn (k := 0) (.l (M.sf _ _ e3)) rfl ?_
  wtm_at "gs"
  cases narrow with
  | false =>
    wtm_at "gs"
    have hp : (0 : Int) < (k : Int) + 1 - (if false = true then 1 else 0) := by
      rw [if_neg Bool.false_ne_true]
      omega
    refine w_rI (C := fun _ j => 0 < j) hp ?_
    have := mod_in d0 hp
    rw [if_neg Bool.false_ne_true] at this ⊢
    exact q _ this.1 (by omega)
  | true =>
    wtm_at "gs"
    by_cases hz : (0 : Int) < (k : Int)
    · rw [decide_eq_true hz]
      have hp : (0 : Int) < (k : Int) + 1 - (if true = true then 1 else 0) := by
        rw [if_pos rfl]
        omega
      refine w_rI (C := fun _ j => 0 < j) hp ?_
      have := mod_in d0 hp
      rw [if_pos rfl] at this ⊢
      exact q _ this.1 (by omega)
    · rw [decide_eq_false hz]
      have hp : (0 : Int) < (k : Int) + 1 - (if false = true then 1 else 0) := by
        rw [if_neg Bool.false_ne_true]
        omega
      refine w_rI (C := fun _ j => 0 < j) hp ?_
      have := mod_in d0 hp
      rw [if_neg Bool.false_ne_true] at this ⊢
      exact q _ this.1 (by omega)
def t_lk2 (K : PySem.W.Frag) : TS := (tIfS (tAnd (tB (tVar 2)) (tTest (tOp rGtI (tVar 6) (tC (.int 0))))) (tAsg (tCB rMaxQ (tCons (tC (.int 0)) (tCons (tOp rSubI (tOp rSubI (tVar 6) (tC (.int 1))) (tOp rDivI (tOp rModI (tCB rIntQ (tCons (tOp (rIx K) (tOp (rIx K) (tVar 1) (tVar 6)) (tC (.int 0))) tNil)) (tC (.int 5))) (tC (.int 2)))) tNil))) (gName 7)) tNext)
theorem max0 {i : Int} : 0 ≤ (if i > 0 then i else 0) ∧ ((if i > 0 then i else 0) = 0 ∨ (if i > 0 then i else 0) = i) := by
  split <;> omega
theorem lk2 (M : Mt Hf H A n B) (L : Links Hf lk n) (hk : k < n) (h0 : 0 ≤ pr) (h1 : pr ≤ k) (q : ∀ pr : Int, 0 ≤ pr → pr ≤ k → nx (lkS x lk tall narrow woven rp k (some (.int pr)) z) H) : t_lk2 K ⟨nx, r, b, c⟩ (lkS x lk tall narrow woven rp k (some (.int pr)) z) H := by
  obtain ⟨xs, bl, d0, d1, d2, d3, e1, e2, e3, g0, g1, g12, g2⟩ := links_get L hk
  unfold t_lk2
  wtm_at "gs"
  cases tall with
  | false =>
    wtm_at "gs"
    exact q _ h0 h1
  | true =>
    wtm_at "gs"
    refine itd (fun e => ?_) (fun e => ?_)
    · wtm_at "gs"
      refine w_ixn (.l (M.sf _ _ e1)) e2 ?_
      wtm_at "gs"
      refine w_ixn (k := 0) (.l (M.sf _ _ e3)) rfl ?_
      wtm_at "gs"
      have := @max0 ((k : Int) - 1 - d0 % 5 / 2)
      exact q _ this.1 (by omega)
    · wtm_at "gs"
      exact q _ h0 h1
def t_lkI (K : PySem.W.Frag) (cc : Int) : TS := (tDrop (tBM K "list" rInsertQ (tVar 8) (tCons (tOp rModI (tOp rDivI (tCB rIntQ (tCons (tOp (rIx K) (tOp (rIx K) (tVar 1) (tVar 6)) (tC (.int 1))) tNil)) (tC (.int cc))) (tOp rAddI (tCB (rLenQ K) (tCons (tVar 8) tNil)) (tC (.int 1)))) (tCons (tOp rAddI (tOp rMulI (tC (.int 2)) (tVar 6)) (tC (.int 2))) tNil))))
theorem lkI {l : Addr} {cc : Int} (M : Mt Hf H A n B) (L : Links Hf lk n) (hk : k < n) (hl : l ∈ A) (hB : B ≤ 100000) (hc : 0 < cc) (hc2 : cc < 100) (q : ∀ H', Mt Hf H' A n (B + 1) → nx (lkS x lk tall narrow woven rp k y (some (.ref l))) H') : t_lkI K cc ⟨nx, r, b, c⟩ (lkS x lk tall narrow woven rp k y (some (.ref l))) H := by
  obtain ⟨xs, bl, d0, d1, d2, d3, e1, e2, e3, g0, g1, g12, g2⟩ := links_get L hk
  obtain ⟨ws, el, hv, hb⟩ := M.ok l hl
  unfold t_lkI
  wtm_at "gs"
  refine ⟨tyL el, ?_⟩
  wtm_at "gs"
  refine w_ixn (.l (M.sf _ _ e1)) e2 ?_
  wtm_at "gs"
  refine w_ixn (k := 1) (.l (M.sf _ _ e3)) rfl ?_
  wtm_at "gs"
  refine w_rI (C := CDivW) (div63 hc (by omega) _) ?_
  wtm_at "gs"
  refine w_len (.l el) ?_
  wtm_at "gs"
  have hp : (0 : Int) < ((iv ws).length : Int) + 1 := by omega
  have mi := mod_in (d1 / cc) hp
  rw [iv_len] at mi
  refine w_insert el (by rw [iv_len]; omega) (by rw [iv_len]; exact mi.1) (by rw [iv_len]; omega) ?_
  exact q _ (M.ins hl el hv hb (val_ref hk) _)
/-- the payload of the j-th object -/
def t_lkP (K : PySem.W.Frag) (te : TE) : TS := tAsg (tOp (rIx K) (tOp (rIx K) (tOp (rIx K) (tVar 0) (tC (.int 4))) te) (tC (.int 1))) (gName 8)
theorem lkP {te : TE} (M : Mt Hf H A n B) (S : Skel Hf x A n m) (ht : ∀ Q : VK, (∀ j : Int, 0 ≤ j → j < n → Q (.int j) H) → te (lkS x lk tall narrow woven rp k y z) H Q) (q : ∀ l ∈ A, nx (lkS x lk tall narrow woven rp k y (some (.ref l))) H) : t_lkP K te ⟨nx, r, b, c⟩ (lkS x lk tall narrow woven rp k y z) H := by
  obtain ⟨p, s, f, w, qd, o, fs, os, rfl, hp, hs, hw, hq, hf, hfs, ho, hon, hfm, hos⟩ := S.ex
  unfold t_lkP
  wtm_at "gs"
  refine w_ixn (k := 4) (.l (M.sf _ _ hp)) rfl ?_
  refine ht _ fun j h0 h1 => ?_
  have hj : j.toNat < os.length := by omega
  obtain ⟨a, nm, bb, ex, ea, hb⟩ := hos os[j.toNat] (List.getElem_mem hj)
  refine w_ix (.l (M.sf _ _ ho)) (at_int (show j = ((j.toNat : Nat) : Int) by omega) (by rw [List.getElem?_eq_getElem hj, ex])) ?_
  wtm_at "gs"
  refine w_ixn (k := 1) (.l (M.sf _ _ ea)) rfl ?_
  wtm_at "gs"
  exact q bb hb
def t_lk3 (K : PySem.W.Frag) : TS := (tIfS (tAnd (tB (tVar 4)) (tTest (tOp rGtI (tVar 6) (tC (.int 1))))) (tSeq (tAsg (tCB rMaxQ (tCons (tC (.int 0)) (tCons (tOp rSubI (tOp rSubI (tVar 6) (tC (.int 2))) (tOp rDivI (tOp rModI (tCB rIntQ (tCons (tOp (rIx K) (tOp (rIx K) (tVar 1) (tVar 6)) (tC (.int 0))) tNil)) (tC (.int 4))) (tC (.int 2)))) tNil))) (gName 7))
    (tSeq (t_lkP K (tCB rMaxQ (tCons (tC (.int 0)) (tCons (tOp rSubI (tOp rSubI (tVar 6) (tC (.int 1))) (tOp rDivI (tOp rModI (tCB rIntQ (tCons (tOp (rIx K) (tOp (rIx K) (tVar 1) (tVar 6)) (tC (.int 2))) tNil)) (tC (.int 4))) (tC (.int 3)))) tNil))))
    (t_lkI K 2))) tNext)
theorem lk3 (M : Mt Hf H A n B) (L : Links Hf lk n) (S : Skel Hf x A n m) (hk : k < n) (hB : B ≤ 100000) (h0 : 0 ≤ pr) (h1 : pr ≤ k) (q : ∀ (pr : Int) z H', 0 ≤ pr → pr ≤ k → Mt Hf H' A n (if woven = true then B + 1 else B) → nx (lkS x lk tall narrow woven rp k (some (.int pr)) z) H') : t_lk3 K ⟨nx, r, b, c⟩ (lkS x lk tall narrow woven rp k (some (.int pr)) z) H := by
  obtain ⟨xs, bl, d0, d1, d2, d3, e1, e2, e3, g0, g1, g12, g2⟩ := links_get L hk
  unfold t_lk3
  wtm_at "gs"
  cases woven with
  | false =>
    wtm_at "gs"
    exact q _ _ _ h0 h1 M
  | true =>
    wtm_at "gs"
    refine itd (fun e => ?_) (fun e => ?_)
    · wtm_at "gs"
      refine w_ixn (.l (M.sf _ _ e1)) e2 ?_
      wtm_at "gs"
      refine w_ixn (k := 0) (.l (M.sf _ _ e3)) rfl ?_
      wtm_at "gs"
      have m1 := @max0 ((k : Int) - 2 - d0 % 4 / 2)
      refine lkP (y := some (.int _)) M S (fun Q hQ => ?_) fun l hl => ?_
      · wtm_at "gs"
        refine w_ixn (.l (M.sf _ _ e1)) e2 ?_
        wtm_at "gs"
        refine w_ixn (k := 2) (.l (M.sf _ _ e3)) rfl ?_
        wtm_at "gs"
        have m2 := @max0 ((k : Int) - 1 - d2 % 4 / 3)
        exact hQ _ m2.1 (by omega)
      · refine lkI (y := some (.int _)) M L hk hl hB (by decide) (by decide) fun H' M' => ?_
        exact q _ _ _ m1.1 (by omega) M'
    · wtm_at "gs"
      exact q _ _ _ h0 h1 (M.more (by rw [if_pos rfl]; omega))
def t_lk4 (K : PySem.W.Frag) : TS := (tIfS (tTest (tOp rEq (tVar 7) (tVar 6))) (tAsg (tOp (rIx K) (tVar 5) (tOp rModI (tCB rIntQ (tCons (tOp (rIx K) (tOp (rIx K) (tVar 1) (tVar 6)) (tC (.int 1))) tNil)) (tCB (rLenQ K) (tCons (tVar 5) tNil)))) (gName 8)) (t_lkP K (tVar 7)))
theorem lk4 {rs : List V} (M : Mt Hf H A n B) (L : Links Hf lk n) (S : Skel Hf x A n m) (hk : k < n) (h0 : 0 ≤ pr) (h1 : pr ≤ k) (hr : Hf rp = some (.lst rs)) (hra : ∀ v ∈ rs, ∃ l ∈ A, v = .ref l) (hr3 : 3 ≤ rs.length)
    (q : ∀ l ∈ A, nx (lkS x lk tall narrow woven rp k (some (.int pr)) (some (.ref l))) H) : t_lk4 K ⟨nx, r, b, c⟩ (lkS x lk tall narrow woven rp k (some (.int pr)) z) H := by
  obtain ⟨xs, bl, d0, d1, d2, d3, e1, e2, e3, g0, g1, g12, g2⟩ := links_get L hk
  unfold t_lk4
  wtm_at "gs"
  refine itd (fun e => ?_) (fun e => ?_)
  · wtm_at "gs"
    refine w_ixn (.l (M.sf _ _ e1)) e2 ?_
    wtm_at "gs"
    refine w_ixn (k := 1) (.l (M.sf _ _ e3)) rfl ?_
    wtm_at "gs"
    refine w_len (.l (M.sf _ _ hr)) ?_
    wtm_at "gs"
    have mi := mod_in d1 (s := (rs.length : Int)) (by omega)
    have hj : (d1 % (rs.length : Int)).toNat < rs.length := by omega
    obtain ⟨l, hl, el⟩ := hra rs[(d1 % (rs.length : Int)).toNat] (List.getElem_mem hj)
    refine w_ix (.l (M.sf _ _ hr)) (at_int (show d1 % (rs.length : Int) = (((d1 % (rs.length : Int)).toNat : Nat) : Int) by omega) (by rw [List.getElem?_eq_getElem hj, el])) ?_
    wtm_at "gs"
    exact q l hl
  · exact lkP M S (fun Q hQ => by
      wtm_at "gs"
      exact hQ _ h0 (by omega)) q
def t_lk6 (K : PySem.W.Frag) : TS := (tIfS (tAnd (tTest (tOp rGtI (tVar 6) (tC (.int 1)))) (tAnd (tTest (tOp rEq (tOp (rIx K) (tOp (rIx K) (tVar 1) (tVar 6)) (tC (.int 3))) (tC (.int 0)))) (tNot (tB (tVar 4))))) (tSeq (t_lkP K (tOp rModI (tCB rIntQ (tCons (tOp (rIx K) (tOp (rIx K) (tVar 1) (tVar 6)) (tC (.int 2))) tNil)) (tVar 6)))
    (t_lkI K 2)) tNext)
theorem lk6 (M : Mt Hf H A n B) (L : Links Hf lk n) (S : Skel Hf x A n m) (hk : k < n) (hB : B ≤ 100000) (q : ∀ z H', Mt Hf H' A n (if woven = true then B else B + 1) → nx (lkS x lk tall narrow woven rp k y z) H') : t_lk6 K ⟨nx, r, b, c⟩ (lkS x lk tall narrow woven rp k y z) H := by
  obtain ⟨xs, bl, d0, d1, d2, d3, e1, e2, e3, g0, g1, g12, g2⟩ := links_get L hk
  have qM : ∀ z, nx (lkS x lk tall narrow woven rp k y z) H := fun z => q z H (M.more (by split <;> omega))
  unfold t_lk6
  wtm_at "gs"
  refine itd (fun e => ?_) (fun e => ?_)
  · wtm_at "gs"
    refine w_ixn (.l (M.sf _ _ e1)) e2 ?_
    wtm_at "gs"
    refine w_ixn (k := 3) (.l (M.sf _ _ e3)) rfl ?_
    wtm_at "gs"
    refine itd (fun e4 => ?_) (fun e4 => ?_)
    · wtm_at "gs"
      cases woven with
      | true =>
        refine iteF ?_
        wtm_at "gs"
        exact qM _
      | false =>
        refine iteT ?_
        wtm_at "gs"
        refine lkP M S (fun Q hQ => ?_) fun l hl => ?_
        · wtm_at "gs"
          refine w_ixn (.l (M.sf _ _ e1)) e2 ?_
          wtm_at "gs"
          refine w_ixn (k := 2) (.l (M.sf _ _ e3)) rfl ?_
          wtm_at "gs"
          have mi := mod_in d2 (s := (k : Int)) (by omega)
          exact hQ _ mi.1 (by omega)
        · refine lkI M L hk hl hB (by decide) (by decide) fun H' M' => ?_
          exact q _ _ M'
    · wtm_at "gs"
      exact qM _
  · refine iteF ?_
    wtm_at "gs"
    exact qM _
end
theorem len__law_linked (K : PySem.W.Frag) (vs : List V) (H : Hp) (Q : VK) (E : XK) (h : sp__law_linked K vs H Q E) : vs.length = (["_law_parts", "_law_links", "_law_tall", "_law_narrow", "_law_woven"] : List Str).length := by
  obtain ⟨x, l, t, nr, wv, Hf, A, n, B, m, rfl, _⟩ := h
  rfl
theorem pure__law_linked (K : PySem.W.Frag) (vs : List V) (H : Hp) (Q : VK) (E : XK) (h : sp__law_linked K vs H Q E) : t__law_linked K { nx := fun _ H' => Q .non H', rt := Q } (start ["_law_parts", "_law_links", "_law_tall", "_law_narrow", "_law_woven", "_law_rows", "_law_k", "_law_parent", "_law_words_here"] vs) H := by
  obtain ⟨x, lk, tall, narrow, woven, Hf, A, n, B, m, rfl, M, S, L, hn, hB, hm, q⟩ := h
  show tSeq (tAsg (tCall (sp__law_root_rows K) [] E0 (tCons (tVar 0) tNil)) (gName 5))
    (tFor (iRng1 (tCons (tCB (rLenQ K) (tCons (tOp (rIx K) (tVar 0) (tC (.int 4))) tNil)) tNil)) (gName 6) (tSeq (t_lk1 K) (tSeq (t_lk2 K) (tSeq (t_lk3 K) (tSeq (t_lk4 K) (tSeq (t_lkI K 8) (t_lk6 K))))))) _ _ _
  wtm_at "gs"
  refine skel_call M S hm fun H1 rp rs M1 nr hra h3 _ => ?_
  have sF : Same Hf (upd Hf rp (.lst rs)) := same_new nr
  have S1 : Skel (upd Hf rp (.lst rs)) x A n m := by
    obtain ⟨p, s, f, w, qd, o, fs, os, e0, hp, hs, hw, hq, hf, hfs, ho, hon, hfm, hos⟩ := S.ex
    exact ⟨p, s, f, w, qd, o, fs, os, e0, sF _ _ hp, hs, hw, hq, sF _ _ hf, fun y hy => by
      obtain ⟨a, nm, pl, b, c, e1, e2, e3⟩ := hfs y hy
      exact ⟨a, nm, pl, b, c, e1, sF _ _ e2, e3⟩, sF _ _ ho, hon, hfm, fun y hy => by
      obtain ⟨a, nm, b, e1, e2, e3⟩ := hos y hy
      exact ⟨a, nm, b, e1, sF _ _ e2, e3⟩⟩
  have L1 : Links (upd Hf rp (.lst rs)) lk n := by
    obtain ⟨xs, e, hn, hx⟩ := L
    exact ⟨xs, sF _ _ e, hn, fun y hy => by
      obtain ⟨b, d0, d1, d2, d3, e1, e2, e3⟩ := hx y hy
      exact ⟨b, d0, d1, d2, d3, e1, sF _ _ e2, e3⟩⟩
  have hr : (upd Hf rp (.lst rs)) rp = some (.lst rs) := upd_same
  generalize hg : upd Hf rp (.lst rs) = Hg at M1 sF S1 L1 hr
  obtain ⟨p, s, f, w, qd, o, fs, os, e0, hp, hs, hw, hq, hf, hfs, ho, hon, hfm, hos⟩ := S1.ex
  subst e0
  wtm_at "gs"
  refine w_ixn (k := 4) (.l (M1.sf _ _ hp)) rfl ?_
  wtm_at "gs"
  refine w_len (.l (M1.sf _ _ ho)) ?_
  wtm_at "gs"
  rw [hon]
  refine f_rng (by omega) (fun i σ' H' => ∃ kv y z, σ' = [some (.ref p), some (.ref lk), some (.bl tall), some (.bl narrow), some (.bl woven), some (.ref rp), kv, y, z] ∧ Mt Hg H' A n (B + 2 * i)) ⟨none, none, none, rfl, M1⟩ ?_ ?_
  · rintro k σ' H' hk ⟨kv, y, z, rfl, Mk⟩
    have hk2 : k < n := by omega
    wtm_at "gs"
    refine lk1 Mk L1 hk2 fun pr a0 a1 => ?_
    refine lk2 Mk L1 hk2 a0 a1 fun pr a0 a1 => ?_
    refine lk3 Mk L1 S1 hk2 (by omega) a0 a1 fun pr z2 H2 a0 a1 M2 => ?_
    refine lk4 M2 L1 S1 hk2 a0 a1 hr hra h3 fun l hl => ?_
    refine lkI M2 L1 hk2 hl (by split <;> omega) (by decide) (by decide) fun H3 M3 => ?_
    refine lk6 M3 L1 S1 hk2 (by split <;> omega) fun z3 H4 M4 => ?_
    exact ⟨_, _, _, rfl, M4.more (by cases woven <;> simp <;> omega)⟩
  · rintro σ' H' ⟨kv, y, z, rfl, Mk⟩
    exact q H' ((Mk.less sF).more (by omega))
/-! ### .. padding -/
theorem iv_pick {cs : List Int} {i : Int} {R : Int → Prop} (h0 : 0 ≤ i) (h1 : i < cs.length) (hR : ∀ c ∈ cs, R c) : ∃ t, atI (iv cs) i = some (.int t) ∧ R t := by
  have hj : i.toNat < cs.length := by omega
  exact ⟨cs[i.toNat], at_int (show i = ((i.toNat : Nat) : Int) by omega) (iv_get (List.getElem?_eq_getElem hj)), hR _ (List.getElem_mem hj)⟩
theorem Skel.mono {Hf Hg : Hp} {x : V} {A : List Addr} {n m : Nat} (S : Skel Hf x A n m) (sF : Same Hf Hg) : Skel Hg x A n m := by
  obtain ⟨p, s, f, w, qd, o, fs, os, e0, hp, hs, hw, hq, hf, hfs, ho, hon, hfm, hos⟩ := S.ex
  exact ⟨p, s, f, w, qd, o, fs, os, e0, sF _ _ hp, hs, hw, hq, sF _ _ hf, fun y hy => by
    obtain ⟨a, nm, pl, b, c, e1, e2, e3⟩ := hfs y hy
    exact ⟨a, nm, pl, b, c, e1, sF _ _ e2, e3⟩, sF _ _ ho, hon, hfm, fun y hy => by
    obtain ⟨a, nm, b, e1, e2, e3⟩ := hos y hy
    exact ⟨a, nm, b, e1, sF _ _ e2, e3⟩⟩
def sgn : List Int := [1, 0, 23, -7, 3, 5, 4294967295]
theorem sgn_val {n : Nat} : ∀ c ∈ sgn, Val n c := fun c h => by
  have : c % 2 = 1 ∨ c = 0 := by
    unfold sgn at h
    simp only [List.mem_cons, List.not_mem_nil, or_false] at h
    omega
  rcases this with h | h
  · exact .inl h
  · exact .inr (.inl h)
/-- many signs ahead of a list; the number at place dj of the digits is added -/
theorem pad_loop {K : PySem.W.Frag} {Hf H : Hp} {A : List Addr} {n B : Nat} {sg l : Addr} {σ : L2.St} {cnt D : Int} {nx : L2.St → Hp → Prop} {r : VK} {b c : L2.St → Hp → Prop} {lslot dj : Nat} (M : Mt Hf H A n B) (hs : Hf sg = some (.lst (iv sgn))) (hl : l ∈ A) (hc0 : 0 ≤ cnt) (hc : cnt ≤ 1000) (hB : B ≤ 100000)
    (hσ : ∀ kv : V, (σ.set 7 (some kv))[lslot]? = some (some (.ref l)) ∧ (σ.set 7 (some kv))[2]? = some (some (.ref sg)) ∧ (σ.set 7 (some kv))[7]? = some (some kv)) (hset : ∀ (kv : V) (kw : V), (σ.set 7 (some kv)).set 7 (some kw) = σ.set 7 (some kw))
    (hD : 0 ≤ D) (hd : ∀ (kv : V) (H' : Hp) (Q : VK), Same Hf H' → Q (.int D) H' → (tOp (rIx K) (tVar 1) (tC (.int (dj : Int)))) (σ.set 7 (some kv)) H' Q)
    (q : ∀ σ' H', (σ' = σ ∨ ∃ kv, σ' = σ.set 7 (some kv)) → Mt Hf H' A n (B + cnt.toNat) → nx σ' H') :
    rRng1 (ForK (gName 7) (tDrop (tBM K "list" rInsertQ (tVar lslot) (tCons (tC (.int 0)) (tCons (tOp (rIx K) (tVar 2) (tOp rModI (tCB rIntQ (tCons (tOp rAddI (tVar 7) (tOp (rIx K) (tVar 1) (tC (.int (dj : Int))))) tNil)) (tC (.int 7)))) tNil)))) ⟨nx, r, b, c⟩ σ) [.int cnt] H := by
  refine f_rng (by omega) (fun i σ' H' => (σ' = σ ∨ ∃ kv, σ' = σ.set 7 (some kv)) ∧ Mt Hf H' A n (B + i)) ⟨.inl rfl, M⟩ ?_ (fun σ' H' ⟨h1, h2⟩ => q σ' H' h1 h2)
  rintro i σ' H' hi ⟨hσ', Mi⟩
  have eσ : σ'.set 7 (some (.int (i : Int))) = σ.set 7 (some (.int (i : Int))) := by
    rcases hσ' with h | ⟨kv, h⟩
    · rw [h]
    · rw [h, hset]
  obtain ⟨g1, g2, g3⟩ := hσ (.int (i : Int))
  obtain ⟨ws, el, hv, hb⟩ := Mi.ok l hl
  wtm_at "gs"
  rw [eσ]
  refine w_var g1 ?_
  refine ⟨tyL el, ?_⟩
  wtm_at "gs"
  refine w_var g2 ?_
  wtm_at "gs"
  refine w_var g3 ?_
  refine hd _ _ _ Mi.sf ?_
  wtm_at "gs"
  have mi := mod_in ((i : Int) + D) (s := 7) (by decide)
  obtain ⟨t, et, ht⟩ := iv_pick (cs := sgn) (R := Val n) mi.1 mi.2 sgn_val
  refine w_ix (.l (Mi.sf _ _ hs)) et ?_
  wtm_at "gs"
  refine w_insert el (by rw [iv_len]; omega) (by decide) (by decide) ?_
  exact ⟨.inr ⟨_, rfl⟩, Mi.ins hl el hv hb ht _⟩
theorem len__law_padded (K : PySem.W.Frag) (vs : List V) (H : Hp) (Q : VK) (E : XK) (h : sp__law_padded K vs H Q E) : vs.length = (["_law_parts", "_law_digits_here"] : List Str).length := by
  obtain ⟨x, l, d0, d1, d2, rest, Hf, A, n, B, m, rfl, _⟩ := h
  rfl
theorem mul_small {a t : Int} {b : Int} (h0 : 0 ≤ a) (h1 : a ≤ b) (ht : t = 1 ∨ t = 20) : 0 ≤ a * t ∧ a * t ≤ 20 * b := by
  rcases ht with h | h
  · subst h
    omega
  · subst h
    omega
theorem pure__law_padded (K : PySem.W.Frag) (vs : List V) (H : Hp) (Q : VK) (E : XK) (h : sp__law_padded K vs H Q E) : t__law_padded K { nx := fun _ H' => Q .non H', rt := Q } (start ["_law_parts", "_law_digits_here", "_law_signs", "_law_times", "_law_length", "_law_rows", "_law_row", "_law_k", "_law_words_here"] vs) H := by
  obtain ⟨x, dl, d0, d1, d2, rest, Hf, A, n, B, m, rfl, M, S, hdl, a0, a1, b0, b1, c0, c1, hfl, hn, hB, hm, q⟩ := h
  rw [hdl] at hfl
  unfold t__law_padded
  wtm_at "gs"
  refine newL (by simp) fun sg H1 nsg s1 hsg => ?_
  have M1 := M.grow s1 nsg hsg
  have sF : Same Hf (upd Hf sg (.lst (iv sgn))) := same_new (M.sf.free nsg)
  have S1 := S.mono sF
  have hd1 : (upd Hf sg (.lst (iv sgn))) dl = some (.lst (iv (d0 :: d1 :: d2 :: rest))) := sF _ _ hfl
  have hs1 : (upd Hf sg (.lst (iv sgn))) sg = some (.lst (iv sgn)) := upd_same
  replace M1 : Mt (upd Hf sg (.lst (iv sgn))) H1 A n B := M1
  generalize upd Hf sg (.lst (iv sgn)) = Hg at M1 sF S1 hd1 hs1
  wtm_at "gs"
  refine newL (by simp) fun t1 H2 nt1 s2 ht1 => ?_
  have M2 := M1.same s2
  wtm_at "gs"
  refine w_ixn (k := 1) (.l (M2.sf _ _ hd1)) rfl ?_
  wtm_at "gs"
  have md := mod_in d1 (s := 4) (by decide)
  obtain ⟨tm, etm, htm⟩ := iv_pick (cs := [1, 20, 1, 1]) (R := fun t => t = 1 ∨ t = 20) md.1 md.2 (by simp)
  refine w_ix (.l ht1) etm ?_
  wtm_at "gs"
  refine newL (by simp) fun t2 H3 nt2 s3 ht2 => ?_
  have M3 := M2.same s3
  wtm_at "gs"
  refine w_ixn (k := 0) (.l (M3.sf _ _ hd1)) rfl ?_
  obtain ⟨ln, eln, hln⟩ := iv_pick (cs := [0, 0, 0, 0, 0, 9, 11, 40]) (R := fun t => 0 ≤ t ∧ t ≤ 40) a0 a1 (by simp)
  refine w_ix (.l ht2) eln ?_
  wtm_at "gs"
  have hlm := mul_small hln.1 hln.2 htm
  refine skel_call M3 S1 hm fun H4 rp rs M4 nr hra h3 h3m => ?_
  have sF2 : Same Hg (upd Hg rp (.lst rs)) := same_new nr
  have S2 := S1.mono sF2
  have hd2 := sF2 _ _ hd1
  have hs2 := sF2 _ _ hs1
  have hr2 : (upd Hg rp (.lst rs)) rp = some (.lst rs) := upd_same
  have sF3 := sF.trans sF2
  generalize upd Hg rp (.lst rs) = Hh at M4 S2 hd2 hs2 hr2 sF2 sF3
  wtm_at "gs"
  refine w_ixn (k := 1) (.l (M4.sf _ _ hd2)) rfl ?_
  wtm_at "gs"
  refine w_len (.l (M4.sf _ _ hr2)) ?_
  wtm_at "gs"
  have mr := mod_in d1 (s := (rs.length : Int) - 2) (by omega)
  have hj : (d1 % ((rs.length : Int) - 2)).toNat < rs.length := by omega
  obtain ⟨l, hl, el⟩ := hra rs[(d1 % ((rs.length : Int) - 2)).toNat] (List.getElem_mem hj)
  refine w_ix (.l (M4.sf _ _ hr2)) (at_int (show d1 % ((rs.length : Int) - 2) = (((d1 % ((rs.length : Int) - 2)).toNat : Nat) : Int) by omega) (by rw [List.getElem?_eq_getElem hj, el])) ?_
  wtm_at "gs"
  refine newL (by simp) fun t3 H5 nt3 s5 ht3 => ?_
  have M5 := M4.same s5
  wtm_at "gs"
  refine w_ixn (k := 0) (.l (M5.sf _ _ hd2)) rfl ?_
  obtain ⟨lc, elc, hlc⟩ := iv_pick (cs := [0, 9, 0, 12, 0, 0, 10, 0]) (R := fun t => 0 ≤ t ∧ t ≤ 12) a0 a1 (by simp)
  refine w_ix (.l ht3) elc ?_
  wtm_at "gs"
  have hcm := mul_small hlc.1 hlc.2 htm
  refine pad_loop (lslot := 6) (dj := 2) (D := d2) M5 hs2 hl (by omega) (by omega) (by omega) (fun kv => ⟨rfl, rfl, rfl⟩) (fun _ _ => rfl) c0 (fun kv H' Q s hQ => ?_) fun σ' H6 hσ M6 => ?_
  · wtm_at "gs"
    exact w_ixn (k := 2) (.l (s _ _ hd2)) rfl hQ
  obtain ⟨kv, hσ⟩ : ∃ kv : Option V, σ' = [some x, some (.ref dl), some (.ref sg), some (.int tm), some (.int (ln * tm)), some (.ref rp), some (.ref l), kv, none] := by
    rcases hσ with h | ⟨kv, h⟩
    · exact ⟨none, h⟩
    · exact ⟨some kv, h⟩
  subst hσ
  obtain ⟨p, s, f, w, qd, o, fs, os, e0, hp, hs, hw, hq, hf, hfs, ho, hon, hfm, hos⟩ := S2.ex
  subst e0
  wtm_at "gs"
  refine w_ixn (k := 4) (.l (M6.sf _ _ hp)) rfl ?_
  wtm_at "gs"
  refine w_len (.l (M6.sf _ _ ho)) ?_
  wtm_at "gs"
  refine itd (fun e => ?_) (fun e => ?_)
  · wtm_at "gs"
    refine w_ixn (k := 4) (.l (M6.sf _ _ hp)) rfl ?_
    wtm_at "gs"
    refine w_ixn (k := 2) (.l (M6.sf _ _ hd2)) rfl ?_
    wtm_at "gs"
    refine w_ixn (k := 4) (.l (M6.sf _ _ hp)) rfl ?_
    wtm_at "gs"
    refine w_len (.l (M6.sf _ _ ho)) ?_
    wtm_at "gs"
    have mo := mod_in d2 (s := (os.length : Int)) (by omega)
    have hj2 : (d2 % (os.length : Int)).toNat < os.length := by omega
    obtain ⟨a, nm, bb, ex, ea, hb⟩ := hos os[(d2 % (os.length : Int)).toNat] (List.getElem_mem hj2)
    refine w_ix (.l (M6.sf _ _ ho)) (at_int (show d2 % (os.length : Int) = (((d2 % (os.length : Int)).toNat : Nat) : Int) by omega) (by rw [List.getElem?_eq_getElem hj2, ex])) ?_
    wtm_at "gs"
    refine w_ixn (k := 1) (.l (M6.sf _ _ ea)) rfl ?_
    wtm_at "gs"
    refine pad_loop (lslot := 8) (dj := 1) (D := d1) M6 hs2 hb (by omega) (by omega) (by omega) (fun kv => ⟨rfl, rfl, rfl⟩) (fun _ _ => rfl) b0 (fun kv H' Q s hQ => ?_) fun σ' H7 hσ M7 => ?_
    · wtm_at "gs"
      exact w_ixn (k := 1) (.l (s _ _ hd2)) rfl hQ
    exact q H7 ((M7.less sF3).more (by omega))
  · wtm_at "gs"
    exact q H6 ((M6.less sF3).more (by omega))
/-! ### .. drawing a picture: what is built -/
theorem Mt.side {Hf H : Hp} {A : List Addr} {n B : Nat} {o : Addr} {u : HO} (m : Mt Hf H A n B) (no : Hf o = none) (na : o ∉ A) : Mt Hf (upd H o u) A n B :=
  ⟨same_mut m.sf no, m.fr, fun l hl => by
    obtain ⟨ws, e, q⟩ := m.ok l hl
    exact ⟨ws, get_ne e fun z => na (z ▸ hl), q⟩⟩
theorem Mt.freeze {Hf H : Hp} {A : List Addr} {n B : Nat} {o : Addr} {u : HO} (m : Mt Hf H A n B) (e : H o = some u) (na : o ∉ A) : Mt (upd Hf o u) H A n B :=
  ⟨fun b v q => by
    by_cases z : b = o
    · subst z
      rw [upd_same] at q
      rw [e]
      exact q
    · rw [upd_ne z] at q
      exact m.sf _ _ q, fun l hl => by
    have nl : l ≠ o := fun z => na (z ▸ hl)
    rw [upd_ne nl]
    exact m.fr l hl, m.ok⟩
/-- a list at o that grows -/
structure Bld (Hf H : Hp) (A : List Addr) (o : Addr) (xs : List V) : Prop where
  no : Hf o = none
  na : o ∉ A
  at_ : H o = some (.lst xs)
section
variable {Hf H H' : Hp} {A : List Addr} {o x : Addr} {xs ys : List V} {u : HO}
theorem Bld.same (b : Bld Hf H A o xs) (s : Same H H') : Bld Hf H' A o xs := ⟨b.no, b.na, s _ _ b.at_⟩
theorem Bld.grow (b : Bld Hf H A o xs) (s : Same H H') (hx : H x = none) : Bld (upd Hf x u) H' A o xs := ⟨by rw [upd_ne (ne_of_none b.at_ hx)]; exact b.no, b.na, s _ _ b.at_⟩
theorem Bld.add (b : Bld Hf H A o xs) (s : Same H H') (hx : H x = none) : Bld Hf H' (x :: A) o xs := ⟨b.no, fun m => by
  rcases List.mem_cons.mp m with z | z
  · exact ne_of_none b.at_ hx z
  · exact b.na z, s _ _ b.at_⟩
theorem Bld.put (b : Bld Hf H A o xs) : Bld Hf (upd H o (.lst ys)) A o ys := ⟨b.no, b.na, upd_same⟩
theorem Bld.other (b : Bld Hf H A o xs) (n : o ≠ x) : Bld Hf (upd H x u) A o xs := ⟨b.no, b.na, get_ne b.at_ n⟩
theorem Bld.freeze (b : Bld Hf H A o xs) (n : o ≠ x) : Bld (upd Hf x u) H A o xs := ⟨by rw [upd_ne n]; exact b.no, b.na, b.at_⟩
end
theorem dcons {ds ss : List Int} {s : Int} (h : Digits ds (s :: ss)) : ∃ d r, ds = d :: r ∧ 0 ≤ d ∧ d < s ∧ Digits r ss := by
  cases h with
  | cons r t => exact ⟨_, _, rfl, r.1, r.2, t⟩
theorem dnil {ds : List Int} (h : Digits ds []) : ds = [] := by
  cases h
  rfl
/-- an object, a frame, a link of parts -/
def OX (Hf : Hp) (A : List Addr) (x : V) : Prop := ∃ (a : Addr) (nm : Nm) (b : Addr), x = .ref a ∧ Hf a = some (.lst [.str nm.1, .ref b]) ∧ b ∈ A
def FX (Hf : Hp) (A : List Addr) (x : V) : Prop := ∃ (a : Addr) (nm : Nm) (pl : Int) (b c : Addr), x = .ref a ∧ Hf a = some (.lst [.str nm.1, .int pl, .ref b, .ref c]) ∧ b ∈ A ∧ c ∈ A
def LX (Hf : Hp) (x : V) : Prop := ∃ (b : Addr) (d0 d1 d2 d3 : Int), x = .ref b ∧ Hf b = some (.lst (iv [d0, d1, d2, d3])) ∧ 0 ≤ d0 ∧ 0 ≤ d1 ∧ d1 < 2 ^ 32 ∧ 0 ≤ d2
theorem OX.mono {Hf Hg : Hp} {A A' : List Addr} {x : V} (h : OX Hf A x) (s : Same Hf Hg) (m : ∀ a ∈ A, a ∈ A') : OX Hg A' x := by
  obtain ⟨a, nm, b, e1, e2, e3⟩ := h
  exact ⟨a, nm, b, e1, s _ _ e2, m _ e3⟩
theorem FX.mono {Hf Hg : Hp} {A A' : List Addr} {x : V} (h : FX Hf A x) (s : Same Hf Hg) (m : ∀ a ∈ A, a ∈ A') : FX Hg A' x := by
  obtain ⟨a, nm, pl, b, c, e1, e2, e3, e4⟩ := h
  exact ⟨a, nm, pl, b, c, e1, s _ _ e2, m _ e3, m _ e4⟩
theorem LX.mono {Hf Hg : Hp} {x : V} (h : LX Hf x) (s : Same Hf Hg) : LX Hg x := by
  obtain ⟨b, d0, d1, d2, d3, e1, e2, e3⟩ := h
  exact ⟨b, d0, d1, d2, d3, e1, s _ _ e2, e3⟩
/-- the objects and the links so far -/
structure ObB (Hs Hf H : Hp) (A : List Addr) (n k j : Nat) (o lk : Addr) (xs ys : List V) : Prop where
  m : Mt Hf H A n 5
  s : Same Hs Hf
  bo : Bld Hf H A o xs
  bl : Bld Hf H A lk ys
  ne : o ≠ lk
  lx : xs.length = k
  ly : ys.length = j
  ox : ∀ x ∈ xs, OX Hf A x
  oy : ∀ x ∈ ys, LX Hf x
section
variable {Hs Hf H H' : Hp} {A : List Addr} {n k j : Nat} {o lk x : Addr} {xs ys : List V} {u : HO} {v : V}
theorem ObB.same (b : ObB Hs Hf H A n k j o lk xs ys) (s : Same H H') : ObB Hs Hf H' A n k j o lk xs ys := ⟨b.m.same s, b.s, b.bo.same s, b.bl.same s, b.ne, b.lx, b.ly, b.ox, b.oy⟩
theorem ObB.grow (b : ObB Hs Hf H A n k j o lk xs ys) (s : Same H H') (hx : H x = none) (e : H' x = some u) : ObB Hs (upd Hf x u) H' A n k j o lk xs ys := by
  have sF : Same Hf (upd Hf x u) := same_new (b.m.sf.free hx)
  exact ⟨b.m.grow s hx e, b.s.trans sF, b.bo.grow s hx, b.bl.grow s hx, b.ne, b.lx, b.ly, fun y hy => (b.ox y hy).mono sF fun _ h => h, fun y hy => (b.oy y hy).mono sF⟩
theorem ObB.add {ws : List Int} (b : ObB Hs Hf H A n k j o lk xs ys) (s : Same H H') (hx : H x = none) (e : H' x = some (.lst (iv ws))) (hv : Vals' n ws) (hl : ws.length ≤ 5) : ObB Hs Hf H' (x :: A) n k j o lk xs ys :=
  ⟨b.m.add s hx e hv hl, b.s, b.bo.add s hx, b.bl.add s hx, b.ne, b.lx, b.ly, fun y hy => (b.ox y hy).mono (fun _ _ h => h) fun _ => List.mem_cons_of_mem _, b.oy⟩
theorem mem_snoc {p : V → Prop} {xs : List V} {v : V} (h : ∀ x ∈ xs, p x) (hv : p v) : ∀ x ∈ xs ++ [v], p x := fun x hx => by
  rcases List.mem_append.mp hx with hx | hx
  · exact h x hx
  · rw [List.mem_singleton.mp hx]
    exact hv
theorem ObB.pushO (b : ObB Hs Hf H A n k j o lk xs ys) (hv : OX Hf A v) : ObB Hs Hf (upd H o (.lst (xs ++ [v]))) A n (k + 1) j o lk (xs ++ [v]) ys :=
  ⟨b.m.side b.bo.no b.bo.na, b.s, b.bo.put, b.bl.other b.ne.symm, b.ne, by rw [List.length_append, b.lx]; rfl, b.ly, mem_snoc b.ox hv, b.oy⟩
theorem ObB.pushL (b : ObB Hs Hf H A n k j o lk xs ys) (hv : LX Hf v) : ObB Hs Hf (upd H lk (.lst (ys ++ [v]))) A n k (j + 1) o lk xs (ys ++ [v]) :=
  ⟨b.m.side b.bl.no b.bl.na, b.s, b.bo.other b.ne, b.bl.put, b.ne, b.lx, by rw [List.length_append, b.ly]; rfl, b.ox, mem_snoc b.oy hv⟩
end
/-- behind the objects and the links: both lie fixed -/
structure Dr (Hs Hf H : Hp) (A : List Addr) (n B : Nat) (o lk : Addr) : Prop where
  m : Mt Hf H A n B
  s : Same Hs Hf
  o : ∃ xs, Hf o = some (.lst xs) ∧ xs.length = n ∧ ∀ x ∈ xs, OX Hf A x
  l : Links Hf lk n
section
variable {Hs Hf H H' : Hp} {A : List Addr} {n B : Nat} {o lk x : Addr} {xs ys : List V} {u : HO} {v : V}
theorem Links.mono {Hf Hg : Hp} {l : Addr} {n : Nat} (h : Links Hf l n) (s : Same Hf Hg) : Links Hg l n := by
  obtain ⟨xs, e, hn, hx⟩ := h
  exact ⟨xs, s _ _ e, hn, fun y hy => LX.mono (hx y hy) s⟩
theorem ObB.done (b : ObB Hs Hf H A n n n o lk xs ys) : ∃ Hg, Dr Hs Hg H A n 5 o lk := by
  have s1 : Same Hf (upd Hf o (.lst xs)) := same_new b.bo.no
  have n2 : (upd Hf o (.lst xs)) lk = none := by
    rw [upd_ne b.ne.symm]
    exact b.bl.no
  have s2 : Same (upd Hf o (.lst xs)) (upd (upd Hf o (.lst xs)) lk (.lst ys)) := same_new n2
  have s3 := s1.trans s2
  exact ⟨_, (b.m.freeze b.bo.at_ b.bo.na).freeze b.bl.at_ b.bl.na, b.s.trans s3, ⟨xs, s2 _ _ upd_same, b.lx, fun y hy => (b.ox y hy).mono s3 fun _ h => h⟩, ⟨ys, upd_same, b.ly, fun y hy => LX.mono (b.oy y hy) s3⟩⟩
theorem Dr.same (b : Dr Hs Hf H A n B o lk) (s : Same H H') : Dr Hs Hf H' A n B o lk := ⟨b.m.same s, b.s, b.o, b.l⟩
theorem Dr.ext {Hg : Hp} (b : Dr Hs Hf H A n B o lk) (m : Mt Hg H' A n B) (s : Same Hf Hg) : Dr Hs Hg H' A n B o lk :=
  ⟨m, b.s.trans s, by
    obtain ⟨xs, e, hn, hx⟩ := b.o
    exact ⟨xs, s _ _ e, hn, fun y hy => (hx y hy).mono s fun _ h => h⟩, b.l.mono s⟩
theorem Dr.grow (b : Dr Hs Hf H A n B o lk) (s : Same H H') (hx : H x = none) (e : H' x = some u) : Dr Hs (upd Hf x u) H' A n B o lk :=
  b.ext (b.m.grow s hx e) (same_new (b.m.sf.free hx))
theorem Dr.freeze (b : Dr Hs Hf H A n B o lk) (d : Bld Hf H A x xs) : Dr Hs (upd Hf x (.lst xs)) H A n B o lk :=
  b.ext (b.m.freeze d.at_ d.na) (same_new d.no)
theorem Dr.add {ws : List Int} (b : Dr Hs Hf H A n B o lk) (s : Same H H') (hx : H x = none) (e : H' x = some (.lst (iv ws))) (hv : Vals' n ws) (hl : ws.length ≤ B) : Dr Hs Hf H' (x :: A) n B o lk :=
  ⟨b.m.add s hx e hv hl, b.s, by
    obtain ⟨xs, e, hn, hx⟩ := b.o
    exact ⟨xs, e, hn, fun y hy => (hx y hy).mono (fun _ _ h => h) fun _ => List.mem_cons_of_mem _⟩, b.l⟩
theorem Dr.side (b : Dr Hs Hf H A n B o lk) (d : Bld Hf H A x xs) : Dr Hs Hf (upd H x u) A n B o lk := ⟨b.m.side d.no d.na, b.s, b.o, b.l⟩
end
/-- what a picture's parts are when all is built -/
theorem skel_pic {K : PySem.W.Frag} {Hf H : Hp} {A : List Addr} {n m B : Nat} {x : V} (M : Mt Hf H A n B) (S : Skel Hf x A n m) (hm : m ≤ B) : ∃ P, RP (SQ K H) (SQ K H) x P ∧ VPic n B P := by
  obtain ⟨p, s, f, w, qd, o, fs, os, rfl, hp, hs, hw, hq, hf, hfs, ho, hon, hfm, hos⟩ := S.ex
  have row : ∀ l ∈ A, ∃ ws : List Int, RI (SQ K H) (.ref l) ws ∧ Vals' n ws ∧ ws.length ≤ B := fun l hl => by
    obtain ⟨ws, e, h1, h2⟩ := M.ok l hl
    exact ⟨ws, ⟨l, rfl, .l e⟩, h1, h2⟩
  have frs : ∀ {fs : List V}, (∀ x ∈ fs, ∃ (a : Addr) (nm : Nm) (pl : Int) (b c : Addr), x = .ref a ∧ Hf a = some (.lst [.str nm.1, .int pl, .ref b, .ref c]) ∧ b ∈ A ∧ c ∈ A) →
      ∃ Fs : List Frm, Paired (RF (SQ K H)) fs Fs ∧ ∀ f ∈ Fs, (Vals' n f.slots ∧ f.slots.length ≤ B) ∧ (Vals' n f.stack ∧ f.stack.length ≤ B) := by
    intro fs h
    induction fs with
    | nil => exact ⟨[], .nil, fun f hf => by cases hf⟩
    | cons x fs ih =>
      obtain ⟨a, nm, pl, b, c, e, ha, hb, hc⟩ := h x List.mem_cons_self
      obtain ⟨Fs, h1, h2⟩ := ih fun y hy => h y (List.mem_cons_of_mem _ hy)
      obtain ⟨wb, rb, vb⟩ := row b hb
      obtain ⟨wc, rc, vc⟩ := row c hc
      refine ⟨⟨nm, pl, wb, wc⟩ :: Fs, .cons ⟨a, _, _, e, .l (M.sf _ _ ha), rb, rc⟩ h1, fun f hf => ?_⟩
      rcases List.mem_cons.mp hf with z | z
      · subst z
        exact ⟨vb, vc⟩
      · exact h2 f z
  have obs : ∀ {os : List V}, (∀ x ∈ os, ∃ (a : Addr) (nm : Nm) (b : Addr), x = .ref a ∧ Hf a = some (.lst [.str nm.1, .ref b]) ∧ b ∈ A) →
      ∃ Os : List (Nm × List Int), Paired (RO (SQ K H)) os Os ∧ ∀ ob ∈ Os, Vals' n ob.2 ∧ ob.2.length ≤ B := by
    intro os h
    induction os with
    | nil => exact ⟨[], .nil, fun f hf => by cases hf⟩
    | cons x os ih =>
      obtain ⟨a, nm, b, e, ha, hb⟩ := h x List.mem_cons_self
      obtain ⟨Os, h1, h2⟩ := ih fun y hy => h y (List.mem_cons_of_mem _ hy)
      obtain ⟨wb, rb, vb⟩ := row b hb
      refine ⟨(nm, wb) :: Os, .cons ⟨a, _, e, .l (M.sf _ _ ha), rb⟩ h1, fun f hf => ?_⟩
      rcases List.mem_cons.mp hf with z | z
      · subst z
        exact vb
      · exact h2 f z
  obtain ⟨ws, rs, vs⟩ := row s hs
  obtain ⟨ww, rw', vw⟩ := row w hw
  obtain ⟨wq, rq, vq⟩ := row qd hq
  obtain ⟨Fs, pf, vf⟩ := frs hfs
  obtain ⟨Os, po, vo⟩ := obs hos
  refine ⟨⟨ws, Fs, ww, wq, Os⟩, ⟨p, _, _, _, _, _, rfl, .l (M.sf _ _ hp), rs, ⟨f, fs, rfl, .l (M.sf _ _ hf), pf⟩, rw', rq, ⟨o, os, rfl, .l (M.sf _ _ ho), po⟩⟩, ⟨fun us hu => ?_, fun us hu => ?_, ?_, ?_⟩⟩
  · rcases List.mem_append.mp hu with hu | hu
    · rcases List.mem_append.mp hu with hu | hu
      · rw [List.mem_singleton.mp hu]
        exact vs
      · obtain ⟨f, hf, hu⟩ := List.mem_flatMap.mp hu
        rcases List.mem_cons.mp hu with z | z
        · rw [z]
          exact (vf f hf).1
        · rw [List.mem_singleton.mp z]
          exact (vf f hf).2
    · rcases List.mem_cons.mp hu with z | z
      · rw [z]
        exact vw
      · rw [List.mem_singleton.mp z]
        exact vq
  · obtain ⟨ob, h1, h2⟩ := List.mem_map.mp hu
    rw [← h2]
    exact vo ob h1
  · show Os.length = n
    rw [← po.length, hon]
  · show Fs.length ≤ B
    rw [← pf.length]
    omega
/-! ### .. drawing a picture: the parts of the code -/
noncomputable def t_dr1 (K : PySem.W.Frag) : TS := (tAsg (tCall (sp__law_digits K) [] E0 (tCons (tCall (sp__law_cell K) [] E0 (tCons (tVar 0) (tCons (tVar 1) tNil))) (tCons (tLst (tCons (tC (.int 13)) (tCons (tC (.int 8)) (tCons (tC (.int 3)) (tCons (tC (.int 4)) (tCons (tC (.int 6)) (tCons (tC (.int 3)) (tCons (tC (.int 3)) (tCons (tC (.int 8)) (tCons (tC (.int 64)) (tCons (tC (.int 64)) (tCons (tC (.int 16)) tNil)))))))))))) tNil))) (gName 2))
noncomputable def t_dr2 (K : PySem.W.Frag) : TS := (tAsg (tOp (rIx K) (tLst (tCons (tC (.int 9)) (tCons (tC (.int 12)) (tCons (tC (.int 6)) (tCons (tC (.int 7)) (tCons (tC (.int 3)) (tCons (tC (.int 11)) (tCons (tC (.int 5)) (tCons (tC (.int 8)) (tCons (tC (.int 1)) (tCons (tC (.int 4)) (tCons (tC (.int 10)) (tCons (tC (.int 2)) (tCons (tC (.int 0)) tNil)))))))))))))) (tOp (rIx K) (tVar 2) (tC (.int 0)))) (gName 3))
noncomputable def t_dr3 (K : PySem.W.Frag) : TS := (tIfS (tOr (tTest (tOp rEq (tOp (rIx K) (tVar 2) (tC (.int 1))) (tC (.int 7)))) (tAnd (tTest (tOp (rIn K false) (tOp (rIx K) (tVar 2) (tC (.int 1))) (tLst (tCons (tC (.int 5)) (tCons (tC (.int 6)) tNil))))) (tTest (tOp rGtI (tOp (rIx K) (tVar 2) (tC (.int 10))) (tC (.int 11)))))) (tAsg (tOp rAddI (tVar 3) (tC (.int 20))) (gName 3)) tNext)
noncomputable def t_dr4 (K : PySem.W.Frag) : TS := (tAsg (tOp rEq (tOp (rIx K) (tVar 2) (tC (.int 1))) (tC (.int 0))) (gName 4))
noncomputable def t_dr5 (K : PySem.W.Frag) : TS := (tAsg (tOp rGtI (tOp (rIx K) (tVar 2) (tC (.int 1))) (tC (.int 3))) (gName 5))
noncomputable def t_dr6 (K : PySem.W.Frag) : TS := (tAsg (tOp (rIx K) (tLst (tCons (tC (.int 1)) (tCons (tC (.int 2)) (tCons (tC (.int 4)) tNil)))) (tOp (rIx K) (tVar 2) (tC (.int 2)))) (gName 6))
noncomputable def t_dr7 (K : PySem.W.Frag) : TS := (tAsg (tOp (rIx K) (tLst (tCons (tC (.int 1)) (tCons (tC (.int 3)) (tCons (tC (.int 0)) tNil)))) (tOp rAddI (tCB rIntQ (tCons (tVar 4) tNil)) (tOp rMulI (tC (.int 2)) (tCB rIntQ (tCons (tVar 5) tNil))))) (gName 7))
noncomputable def t_dr8 (K : PySem.W.Frag) : TS := (tAsg (tLst (tCons (tC (.str "node")) (tCons (tC (.str "b")) (tCons (tC (.str "row7")) (tCons (tC (.str "weakcell")) (tCons (tC (.str "pairs")) (tCons (tC (.str "z9")) tNil))))))) (gName 8))
noncomputable def t_dr9 (K : PySem.W.Frag) : TS := (tAsg (tLst tNil) (gName 9))
noncomputable def t_dr10 (K : PySem.W.Frag) : TS := (tAsg (tLst tNil) (gName 10))
noncomputable def t_dr11 (K : PySem.W.Frag) : TS := (tFor (iRng1 (tCons (tVar 3) tNil)) (gName 11) (tSeq (tAsg (tCall (sp__law_digits K) [] E0 (tCons (tCall (sp__law_cell K) [] E0 (tCons (tVar 0) (tCons (tOp rAddI (tOp rAddI (tVar 1) (tC (.int 1))) (tVar 11)) tNil))) (tCons (tOp rCat (tLst (tCons (tC (.int 6)) (tCons (tC (.int 5)) (tCons (tC (.int 64)) (tCons (tC (.int 4096)) (tCons (tC (.int 64)) (tCons (tC (.int 2)) tNil))))))) (tOp rRep (tLst (tCons (tC (.int 8)) (tCons (tC (.int 64)) (tCons (tC (.int 4294967296)) tNil)))) (tC (.int 4)))) tNil))) (gName 12)) (tSeq (tDrop (tBM K "list" rAppend (tVar 9) (tCons (tLst (tCons (tOp (rIx K) (tVar 8) (tOp (rIx K) (tVar 12) (tC (.int 0)))) (tCons (tCall (sp__law_words K) [] E0 (tCons (tVar 12) (tCons (tC (.int 6)) (tCons (tOp (rIx K) (tVar 12) (tC (.int 1))) (tCons (tVar 3) (tCons (tOp (rIx K) (tLst (tCons (tVar 6) (tCons (tC (.int 1)) tNil))) (tCB rIntQ (tCons (tVar 5) tNil))) tNil)))))) tNil))) tNil))) (tDrop (tBM K "list" rAppend (tVar 10) (tCons (tSl (rSlL K) (tVar 12) (tPart (tC (.int 2))) (tPart (tC (.int 6)))) tNil))))))
noncomputable def t_dr12 (K : PySem.W.Frag) : TS := (tAsg (tCall (sp__law_digits K) [] E0 (tCons (tCall (sp__law_cell K) [] E0 (tCons (tVar 0) (tCons (tOp rAddI (tVar 1) (tC (.int 33))) tNil))) (tCons (tOp rRep (tLst (tCons (tC (.int 8)) (tCons (tC (.int 64)) (tCons (tC (.int 4294967296)) tNil)))) (tC (.int 3))) tNil))) (gName 12))
noncomputable def t_dr13 (K : PySem.W.Frag) : TS := (tAsg (tCall (sp__law_words K) [] E0 (tCons (tVar 12) (tCons (tC (.int 0)) (tCons (tOp (rIx K) (tVar 2) (tC (.int 3))) (tCons (tVar 3) (tCons (tVar 7) tNil)))))) (gName 13))
noncomputable def t_dr14 (K : PySem.W.Frag) : TS := (tAsg (tLst tNil) (gName 14))
noncomputable def t_dr15 (K : PySem.W.Frag) : TS := (tFor (iRng1 (tCons (tOp (rIx K) (tLst (tCons (tC (.int 2)) (tCons (tC (.int 1)) (tCons (tC (.int 0)) (tCons (tC (.int 3)) (tCons (tC (.int 5)) (tCons (tC (.int 1)) tNil))))))) (tOp (rIx K) (tVar 2) (tC (.int 4)))) tNil)) (gName 11) (tSeq (tAsg (tCall (sp__law_digits K) [] E0 (tCons (tCall (sp__law_cell K) [] E0 (tCons (tVar 0) (tCons (tOp rAddI (tOp rAddI (tVar 1) (tC (.int 34))) (tVar 11)) tNil))) (tCons (tOp rCat (tLst (tCons (tC (.int 4)) (tCons (tC (.int 200)) (tCons (tC (.int 4)) (tCons (tC (.int 3)) tNil))))) (tOp rRep (tLst (tCons (tC (.int 8)) (tCons (tC (.int 64)) (tCons (tC (.int 4294967296)) tNil)))) (tC (.int 5)))) tNil))) (gName 12)) (tSeq (tAsg (tCall (sp__law_words K) [] E0 (tCons (tVar 12) (tCons (tC (.int 4)) (tCons (tOp (rIx K) (tVar 12) (tC (.int 2))) (tCons (tVar 3) (tCons (tVar 7) tNil)))))) (gName 15)) (tSeq (tAsg (tCall (sp__law_words K) [] E0 (tCons (tVar 12) (tCons (tC (.int 13)) (tCons (tOp (rIx K) (tVar 12) (tC (.int 3))) (tCons (tVar 3) (tCons (tVar 7) tNil)))))) (gName 16)) (tDrop (tBM K "list" rAppend (tVar 14) (tCons (tLst (tCons (tOp (rIx K) (tLst (tCons (tC (.str "main")) (tCons (tC (.str "grow")) (tCons (tC (.str "f")) (tCons (tC (.str "work2")) tNil))))) (tOp (rIx K) (tVar 12) (tC (.int 0)))) (tCons (tOp (rIx K) (tVar 12) (tC (.int 1))) (tCons (tVar 15) (tCons (tVar 16) tNil))))) tNil)))))))
noncomputable def t_dr16 (K : PySem.W.Frag) : TS := (tIfS (tTest (tOp rLtI (tOp (rIx K) (tVar 2) (tC (.int 10))) (tC (.int 2)))) (tAsg (tLc (iSeq K (tOp rRep (tVar 14) (tC (.int 8)))) (gName 20) tYes (tLst (tCons (tOp (rIx K) (tVar 20) (tC (.int 0))) (tCons (tOp (rIx K) (tVar 20) (tC (.int 1))) (tCons (tCB (rLstQ K) (tCons (tOp (rIx K) (tVar 20) (tC (.int 2))) tNil)) (tCons (tCB (rLstQ K) (tCons (tOp (rIx K) (tVar 20) (tC (.int 3))) tNil)) tNil))))) [20]) (gName 14)) tNext)
noncomputable def t_dr17 (K : PySem.W.Frag) : TS := (tAsg (tCall (sp__law_digits K) [] E0 (tCons (tCall (sp__law_cell K) [] E0 (tCons (tVar 0) (tCons (tOp rAddI (tVar 1) (tC (.int 39))) tNil))) (tCons (tOp rRep (tLst (tCons (tC (.int 64)) tNil)) (tC (.int 4))) tNil))) (gName 12))
noncomputable def t_dr18 (K : PySem.W.Frag) : TS := (tAsg (tVar 3) (gName 17))
noncomputable def t_dr19 (K : PySem.W.Frag) : TS := (tIfS (tAnd (tB (tVar 5)) (tTest (tOp rLtI (tOp (rIx K) (tVar 2) (tC (.int 1))) (tC (.int 6))))) (tAsg (tCB rMinQ (tCons (tC (.int 1)) (tCons (tVar 3) tNil))) (gName 17)) tNext)
noncomputable def t_dr20 (K : PySem.W.Frag) : TS := (tAsg (tLst (tCons (tLc (iRng1 (tCons (tOp (rIx K) (tVar 2) (tC (.int 5))) tNil)) (gName 11) (tTest (tOp rGtI (tVar 17) (tC (.int 0)))) (tOp rAddI (tOp rMulI (tC (.int 2)) (tOp rModI (tCB rIntQ (tCons (tOp (rIx K) (tVar 12) (tVar 11)) tNil)) (tVar 17))) (tC (.int 2))) [11]) (tCons (tLc (iRng1 (tCons (tOp (rIx K) (tVar 2) (tC (.int 6))) tNil)) (gName 11) (tTest (tOp rGtI (tVar 17) (tC (.int 0)))) (tOp rAddI (tOp rMulI (tC (.int 2)) (tOp rModI (tCB rIntQ (tCons (tOp (rIx K) (tVar 12) (tOp rAddI (tC (.int 2)) (tVar 11))) tNil)) (tVar 17))) (tC (.int 2))) [11]) tNil))) (gName 18))
noncomputable def t_dr21 (K : PySem.W.Frag) : TS := (tAsg (tLst (tCons (tVar 13) (tCons (tVar 14) (tCons (tOp (rIx K) (tVar 18) (tC (.int 0))) (tCons (tOp (rIx K) (tVar 18) (tC (.int 1))) (tCons (tVar 9) tNil)))))) (gName 19))
noncomputable def t_dr22 (K : PySem.W.Frag) : TS := (tIfS (tNot (tB (tVar 4))) (tDrop (tCall (sp__law_linked K) [] E0 (tCons (tVar 19) (tCons (tVar 10) (tCons (tOp (rIn K false) (tOp (rIx K) (tVar 2) (tC (.int 1))) (tLst (tCons (tC (.int 3)) (tCons (tC (.int 5)) (tCons (tC (.int 7)) tNil))))) (tCons (tVar 5) (tCons (tOp (rIn K false) (tOp (rIx K) (tVar 2) (tC (.int 1))) (tLst (tCons (tC (.int 2)) (tCons (tC (.int 5)) (tCons (tC (.int 6)) tNil))))) tNil))))))) tNext)
noncomputable def t_dr23 (K : PySem.W.Frag) : TS := (tDrop (tCall (sp__law_padded K) [] E0 (tCons (tVar 19) (tCons (tSl (rSlL K) (tVar 2) (tPart (tC (.int 7))) tNoPart) tNil))))
noncomputable def t_dr24 (K : PySem.W.Frag) : TS := (tRet (tCall (sp__law_numbered K) [] E0 (tCons (tVar 19) tNil)))

abbrev drS (a sc : Addr) (many : Nat) (fr nr : Bool) (de th : Int) (nm ob lk : Addr) (r : List (Option V)) : L2.St := [some (.ref a), some (.int 0), some (.ref sc), some (.int (many : Int)), some (.bl fr), some (.bl nr), some (.int de), some (.int th), some (.ref nm), some (.ref ob), some (.ref lk)] ++ r
theorem st_pick {cs : List Str} {i : Int} (h0 : 0 ≤ i) (h1 : i < cs.length) (ok : cs.all PyData.strOk = true := by decide +kernel) : ∃ t : Nm, atI (cs.map V.str) i = some (.str t.1) := by
  have hj : i.toNat < cs.length := by omega
  refine ⟨⟨cs[i.toNat], List.all_eq_true.mp ok _ (List.getElem_mem hj)⟩, at_int (show i = ((i.toNat : Nat) : Int) by omega) ?_⟩
  rw [List.getElem?_map, List.getElem?_eq_getElem hj]
  rfl
theorem nat_of {d : Int} (h : 0 ≤ d) : ∃ c : Nat, d = (c : Int) := ⟨d.toNat, by omega⟩
section
variable {K : PySem.W.Frag} {Hs Hf H : Hp} {A : List Addr} {n B : Nat} {a sc nm ob lk : Addr} {fr nr : Bool} {de th : Int} {ns : List Int} {nx : L2.St → Hp → Prop} {r : VK} {b c : L2.St → Hp → Prop}
/-- digits of a cell -/
theorem cell_digits {l : Addr} {ss : List Int} {Q : VK} (hs : H l = some (.lst (iv ss))) (hp : ∀ x ∈ ss, 0 < x ∧ x < 2 ^ 63) (hl : ss.length ≤ 1000)
    (q : ∀ H' p ds, Same H H' → H p = none → H' p = some (.lst (iv ds)) → Digits ds ss → Q (.ref p) H') : ∀ z : Int, sp__law_digits K [.int z, .ref l] H Q E0 := fun z => ⟨z, l, ss, rfl, hs, hp, hl, q⟩
theorem dr3 {d0 d1 d2 d3 d4 d5 d6 d7 d8 d9 d10 m : Int} (hsc : H sc = some (.lst (iv [d0, d1, d2, d3, d4, d5, d6, d7, d8, d9, d10]))) {rest : List (Option V)}
    (q : ∀ (m2 : Int) H', Same H H' → (m2 = m ∨ m2 = m + 20) → nx ([some (.ref a), some (.int 0), some (.ref sc), some (.int m2)] ++ rest) H') : t_dr3 K ⟨nx, r, b, c⟩ ([some (.ref a), some (.int 0), some (.ref sc), some (.int m)] ++ rest) H := by
  unfold t_dr3
  wtm_at "gs"
  refine w_ixn (k := 1) (.l hsc) rfl ?_
  wtm_at "gs"
  refine itd (fun e => ?_) (fun e => ?_)
  · refine iteT ?_
    wtm_at "gs"
    exact q _ _ (fun _ _ h => h) (.inr rfl)
  · wtm_at "gs"
    refine w_ixn (k := 1) (.l hsc) rfl ?_
    wtm_at "gs"
    refine newL (by simp) fun t H1 nt s1 ht => ?_
    refine w_inS (.l ht) rfl rfl fun bb => ?_
    wtm_at "gs"
    cases bb with
    | false =>
      refine iteF ?_
      refine iteF ?_
      wtm_at "gs"
      exact q _ _ s1 (.inl rfl)
    | true =>
      refine iteT ?_
      wtm_at "gs"
      refine w_ixn (k := 10) (.l (s1 _ _ hsc)) rfl ?_
      wtm_at "gs"
      refine itd (fun e => ?_) (fun e => ?_)
      · wtm_at "gs"
        exact q _ _ s1 (.inr rfl)
      · wtm_at "gs"
        exact q _ _ s1 (.inl rfl)
theorem dr11 {r9 : List (Option V)} (ha : SqL K Hs a (ns.map V.int)) (hnm : Hs nm = some (.lst ((["node", "b", "row7", "weakcell", "pairs", "z9"] : List Str).map V.str))) (hn : n ≤ 32) (b0 : ObB Hs Hf H [] n 0 0 ob lk [] []) {s11 s12 : Option V}
    (q : ∀ s11 s12 Hg H' A, Dr Hs Hg H' A n 5 ob lk → nx (drS a sc n fr nr de th nm ob lk (s11 :: s12 :: r9)) H') : t_dr11 K ⟨nx, r, b, c⟩ (drS a sc n fr nr de th nm ob lk (s11 :: s12 :: r9)) H := by
  unfold t_dr11
  wtm_at "gs"
  refine f_rng (by omega) (fun i σ' H' => ∃ s11 s12 Hf A xs ys, σ' = drS a sc n fr nr de th nm ob lk (s11 :: s12 :: r9) ∧ ObB Hs Hf H' A n i i ob lk xs ys) ⟨_, _, _, _, _, _, rfl, b0⟩ ?_ ?_
  · rintro k σ' H' hk ⟨s11, s12, Hf, A, xs, ys, rfl, o⟩
    wtm_at "gs"
    refine ⟨a, ns, _, rfl, sql_same (o.s.trans o.m.sf) ha, by omega, by omega, fun z => ?_⟩
    wtm_at "gs"
    refine newL (by simp) fun t1 H1 n1 s1 h1 => ?_
    wtm_at "gs"
    refine newL (by simp) fun t2 H2 n2 s2 h2 => ?_
    wtm_at "gs"
    refine w_rep h2 (by decide) (by decide) (by decide) fun t3 H3 n3 s3 h3 => ?_
    refine w_cat (s3 _ _ (s2 _ _ h1)) h3 (by decide) fun t4 H4 n4 s4 h4 => ?_
    wtm_at "gs"
    refine cell_digits (ss := [6, 5, 64, 4096, 64, 2, 8, 64, 4294967296, 8, 64, 4294967296, 8, 64, 4294967296, 8, 64, 4294967296]) h4 (by decide) (by decide) (fun H5 p ds s5 np hp hd => ?_) z
    obtain ⟨e0, ds, rfl, g0, g0', hd⟩ := dcons hd
    obtain ⟨e1, ds, rfl, g1, g1', hd⟩ := dcons hd
    obtain ⟨e2, ds, rfl, g2, g2', hd⟩ := dcons hd
    obtain ⟨e3, ds, rfl, g3, g3', hd⟩ := dcons hd
    obtain ⟨e4, ds, rfl, g4, g4', hd⟩ := dcons hd
    obtain ⟨e5, ds, rfl, g5, g5', hd⟩ := dcons hd
    have hlen := hd.length
    obtain ⟨cn, rfl⟩ := nat_of g1
    have o5 := ((o.same (s1.trans (s2.trans (s3.trans s4))))).grow s5 np hp
    have hp5 : (upd Hf p (.lst (iv (e0 :: (cn : Int) :: e2 :: e3 :: e4 :: e5 :: ds)))) p = some (.lst (iv (e0 :: (cn : Int) :: e2 :: e3 :: e4 :: e5 :: ds))) := upd_same
    generalize upd Hf p (.lst (iv (e0 :: (cn : Int) :: e2 :: e3 :: e4 :: e5 :: ds))) = Hg at o5 hp5
    wtm_at "gs"
    refine ⟨tyL o5.bo.at_, ?_⟩
    wtm_at "gs"
    refine w_ixn (k := 0) (.l (o5.m.sf _ _ hp5)) rfl ?_
    obtain ⟨tn, etn⟩ := st_pick (cs := (["node", "b", "row7", "weakcell", "pairs", "z9"] : List Str)) g0 g0'
    refine w_ix (.l (o5.m.sf _ _ (o5.s _ _ hnm))) etn ?_
    wtm_at "gs"
    refine w_ixn (k := 1) (.l (o5.m.sf _ _ hp5)) rfl ?_
    wtm_at "gs"
    refine newL (by simp) fun t6 H6 n6 s6 h6 => ?_
    wtm_at "gs"
    have o6 := o5.same s6
    have sel : ∃ x : Int, atI [V.int de, V.int 1] (if nr = true then 1 else 0) = some (.int x) := by
      cases nr
      · exact ⟨_, rfl⟩
      · exact ⟨_, rfl⟩
    obtain ⟨dn, edn⟩ := sel
    refine w_ix (.l h6) edn ?_
    wtm_at "gs"
    refine ⟨p, _, 6, cn, n, dn, rfl, o6.m.sf _ _ hp5, ?_, by omega, fun H7 w ws s7 nw hw hwl hwv => ?_⟩
    · show 6 + 3 * cn ≤ ds.length + 1 + 1 + 1 + 1 + 1 + 1
      rw [hlen]
      show 6 + 3 * cn ≤ 18
      omega
    have o7 := o6.add s7 nw hw hwv (by omega)
    wtm_at "gs"
    refine newL (by simp) fun u H8 nu s8 hu => ?_
    have o8 := o7.grow s8 nu hu
    have hp8 : (upd Hg u (.lst [V.str tn.1, V.ref w])) p = some (.lst (iv (e0 :: (cn : Int) :: e2 :: e3 :: e4 :: e5 :: ds))) := (same_new (o7.m.sf.free nu)) _ _ hp5
    have hu8 : (upd Hg u (.lst [V.str tn.1, V.ref w])) u = some (.lst [V.str tn.1, V.ref w]) := upd_same
    generalize upd Hg u (.lst [V.str tn.1, V.ref w]) = Hh at o8 hp8 hu8
    wtm_at "gs"
    refine w_append o8.bo.at_ (by rw [o8.lx]; omega) ?_
    have o9 := o8.pushO (v := .ref u) ⟨u, tn, w, rfl, hu8, List.mem_cons_self⟩
    wtm_at "gs"
    refine ⟨tyL o9.bl.at_, ?_⟩
    wtm_at "gs"
    refine ⟨2, rfl, ?_⟩
    wtm_at "gs"
    refine ⟨6, rfl, ?_⟩
    refine w_slL (.of (o9.m.sf _ _ hp8)) fun v H10 nv s10 hv => ?_
    have ec : cutV (iv (e0 :: (cn : Int) :: e2 :: e3 :: e4 :: e5 :: ds)) (some 2) (some 6) = iv [e2, e3, e4, e5] := by
      refine (cut_nat _ 2 6).trans ?_
      rw [iv_len]
      show ((iv (e0 :: (cn : Int) :: e2 :: e3 :: e4 :: e5 :: ds)).drop (min 2 (ds.length + 1 + 1 + 1 + 1 + 1 + 1))).take (min 6 (ds.length + 1 + 1 + 1 + 1 + 1 + 1) - min 2 (ds.length + 1 + 1 + 1 + 1 + 1 + 1)) = _
      rw [show min 2 (ds.length + 1 + 1 + 1 + 1 + 1 + 1) = 2 by omega, show min 6 (ds.length + 1 + 1 + 1 + 1 + 1 + 1) = 6 by omega]
      rfl
    rw [ec] at hv
    have o10 := o9.grow s10 nv hv
    have hv10 : (upd Hh v (.lst (iv [e2, e3, e4, e5]))) v = some (.lst (iv [e2, e3, e4, e5])) := upd_same
    generalize upd Hh v (.lst (iv [e2, e3, e4, e5])) = Hi at o10 hv10
    wtm_at "gs"
    refine w_append o10.bl.at_ (by rw [o10.ly]; omega) ?_
    exact ⟨_, _, _, _, _, _, rfl, o10.pushL (v := .ref v) ⟨v, e2, e3, e4, e5, rfl, hv10, g2, g3, by omega, g4⟩⟩
  · rintro σ' H' ⟨s11, s12, Hf, A, xs, ys, rfl, o⟩
    rw [show ((n : Int)).toNat = n by omega] at o
    obtain ⟨Hg, d⟩ := o.done
    exact q _ _ _ _ _ d
end
/-! ### .. drawing a picture: the frames -/
/-- frames so far -/
structure FrB (Hs Hf H : Hp) (A : List Addr) (n k : Nat) (o lk st fm : Addr) (fs : List V) : Prop where
  d : Dr Hs Hf H A n 5 o lk
  b : Bld Hf H A fm fs
  st : st ∈ A
  l : fs.length = k
  f : ∀ x ∈ fs, FX Hf A x
section
variable {Hs Hf H H' : Hp} {A : List Addr} {n k : Nat} {o lk st fm x : Addr} {fs : List V} {u : HO} {v : V}
theorem FrB.same (b : FrB Hs Hf H A n k o lk st fm fs) (s : Same H H') : FrB Hs Hf H' A n k o lk st fm fs := ⟨b.d.same s, b.b.same s, b.st, b.l, b.f⟩
theorem FrB.grow (b : FrB Hs Hf H A n k o lk st fm fs) (s : Same H H') (hx : H x = none) (e : H' x = some u) : FrB Hs (upd Hf x u) H' A n k o lk st fm fs :=
  ⟨b.d.grow s hx e, b.b.grow s hx, b.st, b.l, fun y hy => (b.f y hy).mono (same_new (b.d.m.sf.free hx)) fun _ h => h⟩
theorem FrB.add {ws : List Int} (b : FrB Hs Hf H A n k o lk st fm fs) (s : Same H H') (hx : H x = none) (e : H' x = some (.lst (iv ws))) (hv : Vals' n ws) (hl : ws.length ≤ 5) : FrB Hs Hf H' (x :: A) n k o lk st fm fs :=
  ⟨b.d.add s hx e hv hl, b.b.add s hx, List.mem_cons_of_mem _ b.st, b.l, fun y hy => (b.f y hy).mono (fun _ _ h => h) fun _ => List.mem_cons_of_mem _⟩
theorem FrB.push (b : FrB Hs Hf H A n k o lk st fm fs) (hv : FX Hf A v) : FrB Hs Hf (upd H fm (.lst (fs ++ [v]))) A n (k + 1) o lk st fm (fs ++ [v]) :=
  ⟨b.d.side b.b, b.b.put, b.st, by rw [List.length_append, b.l]; rfl, mem_snoc b.f hv⟩
theorem FrB.done (b : FrB Hs Hf H A n k o lk st fm fs) : Dr Hs (upd Hf fm (.lst fs)) H A n 5 o lk ∧ (upd Hf fm (.lst fs)) fm = some (.lst fs) ∧ st ∈ A ∧ fs.length = k ∧ ∀ x ∈ fs, FX (upd Hf fm (.lst fs)) A x :=
  ⟨b.d.freeze b.b, upd_same, b.st, b.l, fun y hy => (b.f y hy).mono (same_new b.b.no) fun _ h => h⟩
theorem FrB.mf (b : FrB Hs Hf H A n k o lk st fm fs) : Same Hf H := b.d.m.sf
end
section
variable {K : PySem.W.Frag} {Hs Hf H : Hp} {A : List Addr} {n B : Nat} {a sc nm ob lk st fm : Addr} {fr nr : Bool} {de th : Int} {ns : List Int} {nx : L2.St → Hp → Prop} {r : VK} {b c : L2.St → Hp → Prop}
theorem dr15 {r9 : List (Option V)} {d0 d1 d2 d3 d4 d5 d6 d7 d8 d9 d10 : Int} (ha : SqL K Hs a (ns.map V.int)) (hsc : Hs sc = some (.lst (iv [d0, d1, d2, d3, d4, d5, d6, d7, d8, d9, d10]))) (g4 : 0 ≤ d4) (g4' : d4 < 6) (b0 : FrB Hs Hf H A n 0 ob lk st fm []) {s11 s12 s13 s15 s16 : Option V}
    (q : ∀ s11 s12 s15 s16 Hg H' A fs k, FrB Hs Hg H' A n k ob lk st fm fs → k ≤ 5 → nx (drS a sc n fr nr de th nm ob lk (s11 :: s12 :: s13 :: some (.ref fm) :: s15 :: s16 :: r9)) H') : t_dr15 K ⟨nx, r, b, c⟩ (drS a sc n fr nr de th nm ob lk (s11 :: s12 :: s13 :: some (.ref fm) :: s15 :: s16 :: r9)) H := by
  unfold t_dr15
  wtm_at "gs"
  refine newL (by simp) fun t0 H1 n0 s0 h0 => ?_
  have b1 := b0.same s0
  wtm_at "gs"
  refine w_ixn (k := 4) (.l (b1.mf _ _ (b1.d.s _ _ hsc))) rfl ?_
  obtain ⟨cnt, ecnt, hcnt⟩ := iv_pick (cs := [2, 1, 0, 3, 5, 1]) (R := fun t => 0 ≤ t ∧ t ≤ 5) g4 g4' (by simp)
  refine w_ix (.l h0) ecnt ?_
  wtm_at "gs"
  refine f_rng (by omega) (fun i σ' H' => ∃ s11 s12 s15 s16 Hf A fs, σ' = drS a sc n fr nr de th nm ob lk (s11 :: s12 :: s13 :: some (.ref fm) :: s15 :: s16 :: r9) ∧ FrB Hs Hf H' A n i ob lk st fm fs) ⟨_, _, _, _, _, _, _, rfl, b1⟩ ?_ ?_
  · rintro k σ' H' hk ⟨s11, s12, s15, s16, Hf, A, fs, rfl, o⟩
    wtm_at "gs"
    refine ⟨a, ns, _, rfl, sql_same (o.d.s.trans o.mf) ha, by omega, by omega, fun z => ?_⟩
    wtm_at "gs"
    refine newL (by simp) fun t1 H1 n1 s1 h1 => ?_
    wtm_at "gs"
    refine newL (by simp) fun t2 H2 n2 s2 h2 => ?_
    wtm_at "gs"
    refine w_rep h2 (by decide) (by decide) (by decide) fun t3 H3 n3 s3 h3 => ?_
    refine w_cat (s3 _ _ (s2 _ _ h1)) h3 (by decide) fun t4 H4 n4 s4 h4 => ?_
    wtm_at "gs"
    refine cell_digits (ss := [4, 200, 4, 3, 8, 64, 4294967296, 8, 64, 4294967296, 8, 64, 4294967296, 8, 64, 4294967296, 8, 64, 4294967296]) h4 (by decide) (by decide) (fun H5 p ds s5 np hp hd => ?_) z
    obtain ⟨e0, ds, rfl, g0, g0', hd⟩ := dcons hd
    obtain ⟨e1, ds, rfl, g1, g1', hd⟩ := dcons hd
    obtain ⟨e2, ds, rfl, g2, g2', hd⟩ := dcons hd
    obtain ⟨e3, ds, rfl, g3, g3', hd⟩ := dcons hd
    have hlen := hd.length
    obtain ⟨c2, rfl⟩ := nat_of g2
    obtain ⟨c3, rfl⟩ := nat_of g3
    have o5 := ((o.same (s1.trans (s2.trans (s3.trans s4))))).grow s5 np hp
    have hp5 : (upd Hf p (.lst (iv (e0 :: e1 :: (c2 : Int) :: (c3 : Int) :: ds)))) p = some (.lst (iv (e0 :: e1 :: (c2 : Int) :: (c3 : Int) :: ds))) := upd_same
    generalize upd Hf p (.lst (iv (e0 :: e1 :: (c2 : Int) :: (c3 : Int) :: ds))) = Hg at o5 hp5
    have len19 : 19 ≤ (e0 :: e1 :: (c2 : Int) :: (c3 : Int) :: ds).length := by
      show 19 ≤ ds.length + 1 + 1 + 1 + 1
      rw [hlen]
      decide
    wtm_at "gs"
    refine w_ixn (k := 2) (.l (o5.mf _ _ hp5)) rfl ?_
    wtm_at "gs"
    refine ⟨p, _, 4, c2, n, th, rfl, o5.mf _ _ hp5, by omega, by omega, fun H6 w1 ws1 s6 nw1 hw1 hl1 hv1 => ?_⟩
    have o6 := o5.add s6 nw1 hw1 hv1 (by omega)
    wtm_at "gs"
    refine w_ixn (k := 3) (.l (o6.mf _ _ hp5)) rfl ?_
    wtm_at "gs"
    refine ⟨p, _, 13, c3, n, th, rfl, o6.mf _ _ hp5, by omega, by omega, fun H7 w2 ws2 s7 nw2 hw2 hl2 hv2 => ?_⟩
    have o7 := o6.add s7 nw2 hw2 hv2 (by omega)
    wtm_at "gs"
    refine ⟨tyL o7.b.at_, ?_⟩
    wtm_at "gs"
    refine newL (by simp) fun t8 H8 n8 s8 h8 => ?_
    have o8 := o7.same s8
    wtm_at "gs"
    refine w_ixn (k := 0) (.l (o8.mf _ _ hp5)) rfl ?_
    obtain ⟨tn, etn⟩ := st_pick (cs := (["main", "grow", "f", "work2"] : List Str)) g0 g0'
    refine w_ix (.l h8) etn ?_
    wtm_at "gs"
    refine w_ixn (k := 1) (.l (o8.mf _ _ hp5)) rfl ?_
    wtm_at "gs"
    refine newL (by simp) fun u H9 nu s9 hu => ?_
    have o9 := o8.grow s9 nu hu
    wtm_at "gs"
    refine w_append o9.b.at_ (by rw [o9.l]; omega) ?_
    exact ⟨_, _, _, _, _, _, _, rfl, o9.push (v := .ref u) ⟨u, tn, e1, w1, w2, rfl, upd_same, List.mem_cons_of_mem _ List.mem_cons_self, List.mem_cons_self⟩⟩
  · rintro σ' H' ⟨s11, s12, s15, s16, Hf, A, fs, rfl, o⟩
    exact q _ _ _ _ _ _ _ _ _ o (by omega)
theorem rep_mem {xs : List V} {m : Nat} {v : V} (h : v ∈ (List.replicate m xs).flatten) : v ∈ xs := by
  obtain ⟨l, h1, h2⟩ := List.mem_flatten.mp h
  rw [(List.mem_replicate.mp h1).2] at h2
  exact h2
theorem rep_len (xs : List V) (m : Nat) : (List.replicate m xs).flatten.length = m * xs.length := by
  induction m with
  | zero => simp
  | succ m ih =>
    rw [List.replicate_succ, List.flatten_cons, List.length_append, ih, Nat.succ_mul]
    omega
theorem dr16 {fs : List V} {k : Nat} {d0 d1 d2 d3 d4 d5 d6 d7 d8 d9 d10 : Int} (hsc : Hs sc = some (.lst (iv [d0, d1, d2, d3, d4, d5, d6, d7, d8, d9, d10]))) (b0 : FrB Hs Hf H A n k ob lk st fm fs) (hk : k ≤ 5) {s11 s12 s13 s15 s16 s17 s18 s19 : Option V}
    (q : ∀ Hg H' A fs fm k, FrB Hs Hg H' A n k ob lk st fm fs → k ≤ 40 → nx (drS a sc n fr nr de th nm ob lk [s11, s12, s13, some (.ref fm), s15, s16, s17, s18, s19, none]) H') : t_dr16 K ⟨nx, r, b, c⟩ (drS a sc n fr nr de th nm ob lk [s11, s12, s13, some (.ref fm), s15, s16, s17, s18, s19, none]) H := by
  unfold t_dr16
  wtm_at "gs"
  refine w_ixn (k := 10) (.l (b0.mf _ _ (b0.d.s _ _ hsc))) rfl ?_
  wtm_at "gs"
  refine itd (fun e => ?_) (fun e => ?_)
  · wtm_at "gs"
    obtain ⟨d, hfm, hst, hl, hf⟩ := b0.done
    generalize upd Hf fm (.lst fs) = Hg at d hfm hf
    refine w_rep (d.m.sf _ _ hfm) (by decide) (by decide) (by show fs.length * 8 ≤ _; omega) fun t H1 nt s1 ht => ?_
    have d1 := d.grow s1 nt ht
    have hf1 : ∀ x ∈ (List.replicate (8 : Int).toNat fs).flatten, FX (upd Hg t (.lst (List.replicate (8 : Int).toNat fs).flatten)) A x := fun x hx => (hf x (rep_mem hx)).mono (same_new (d.m.sf.free nt)) fun _ h => h
    have ht1 : (upd Hg t (.lst (List.replicate (8 : Int).toNat fs).flatten)) t = some (.lst (List.replicate (8 : Int).toNat fs).flatten) := upd_same
    have hlen : (List.replicate (8 : Int).toNat fs).flatten.length ≤ 40 := by
      rw [rep_len]
      show 8 * fs.length ≤ 40
      omega
    generalize upd Hg t (.lst (List.replicate (8 : Int).toNat fs).flatten) = Hh at d1 hf1 ht1
    generalize (List.replicate (8 : Int).toNat fs).flatten = xs at hlen ht ht1 hf1
    refine l_seq0 (.l ht1) d1.m.sf (fun D i H' => ∃ Hi A2 ys, Same Hh Hi ∧ (∀ a ∈ A, a ∈ A2) ∧ FrB Hs Hi H' A2 n i ob lk st D ys) (fun D nD => ?_) (fun D i H' nD ⟨_, _, _, s, _, b⟩ => s.trans b.mf) ?_ ?_
    · have sD : Same H1 (upd H1 D (.lst [])) := same_new nD
      have nA : D ∉ A := fun z => by
        obtain ⟨ws, e, _⟩ := d1.m.ok D z
        rw [nD] at e
        cases e
      exact ⟨Hh, A, [], fun _ _ h => h, fun _ h => h, d1.same sD, ⟨d1.m.sf.free nD, nA, upd_same⟩, hst, rfl, fun _ h => by cases h⟩
    · rintro D i x H2 nD hx ⟨Hi, A2, ys, sI, sA, o⟩
      obtain ⟨a1, nm1, pl, b1, c1, rfl, ha1, hb1, hc1⟩ := hf1 x (List.mem_of_getElem? hx)
      have hi : i < xs.length := (List.getElem?_eq_some_iff.mp hx).1
      have ha2 := sI _ _ ha1
      wtm_at "gs"
      refine ⟨rfl, ?_⟩
      wtm_at "gs"
      refine w_ixn (k := 0) (.l (o.mf _ _ ha2)) rfl ?_
      wtm_at "gs"
      refine w_ixn (k := 1) (.l (o.mf _ _ ha2)) rfl ?_
      wtm_at "gs"
      refine w_ixn (k := 2) (.l (o.mf _ _ ha2)) rfl ?_
      wtm_at "gs"
      obtain ⟨ws1, ew1, hv1, hl1⟩ := o.d.m.ok b1 (sA _ hb1)
      refine w_list (.l ew1) fun p1 H3 np1 s3 hp1 => ?_
      have o3 := o.add s3 np1 hp1 hv1 hl1
      wtm_at "gs"
      refine w_ixn (k := 3) (.l (o3.mf _ _ ha2)) rfl ?_
      wtm_at "gs"
      obtain ⟨ws2, ew2, hv2, hl2⟩ := o3.d.m.ok c1 (List.mem_cons_of_mem _ (sA _ hc1))
      refine w_list (.l ew2) fun p2 H4 np2 s4 hp2 => ?_
      have o4 := o3.add s4 np2 hp2 hv2 hl2
      wtm_at "gs"
      refine newL (by simp) fun u H5 nu s5 hu => ?_
      have o5 := o4.grow s5 nu hu
      refine kept o5.b.at_ (by rw [o5.l]; omega) ?_
      exact ⟨_, _, _, sI.trans (same_new (o4.mf.free nu)), fun y hy => List.mem_cons_of_mem _ (List.mem_cons_of_mem _ (sA y hy)), o5.push (v := .ref u) ⟨u, nm1, pl, p1, p2, rfl, upd_same, List.mem_cons_of_mem _ List.mem_cons_self, List.mem_cons_self⟩⟩
    · rintro D H2 nD ⟨Hi, A2, ys, sI, sA, o⟩
      wtm_at "gs"
      exact q _ _ _ _ _ _ o (by omega)
  · wtm_at "gs"
    exact q _ _ _ _ _ _ b0 (by omega)
end
/-! ### .. drawing a picture -/
section
variable {K : PySem.W.Frag} {Hs Hf H : Hp} {A : List Addr} {n B : Nat} {a sc nm ob lk st fm : Addr} {fr nr : Bool} {de th : Int} {ns : List Int} {nx : L2.St → Hp → Prop} {r : VK} {b c : L2.St → Hp → Prop}
theorem dr19 {s11 s12 s13 s14 s15 s16 s18 s19 s20 : Option V} {d0 d1 d2 d3 d4 d5 d6 d7 d8 d9 d10 : Int} (hsc : H sc = some (.lst (iv [d0, d1, d2, d3, d4, d5, d6, d7, d8, d9, d10])))
    (q : ∀ re : Nat, re ≤ n → nx (drS a sc n fr nr de th nm ob lk [s11, s12, s13, s14, s15, s16, some (.int (re : Int)), s18, s19, s20]) H) : t_dr19 K ⟨nx, r, b, c⟩ (drS a sc n fr nr de th nm ob lk [s11, s12, s13, s14, s15, s16, some (.int (n : Int)), s18, s19, s20]) H := by
  unfold t_dr19
  wtm_at "gs"
  cases nr with
  | false =>
    refine iteF ?_
    refine iteF ?_
    wtm_at "gs"
    exact q n (Nat.le_refl _)
  | true =>
    refine iteT ?_
    wtm_at "gs"
    refine w_ixn (k := 1) (.l hsc) rfl ?_
    wtm_at "gs"
    refine itd (fun e => ?_) (fun e => ?_)
    · wtm_at "gs"
      have : ∃ re : Nat, (if (n : Int) < 1 then (n : Int) else 1) = (re : Int) ∧ re ≤ n := by
        split
        · exact ⟨n, rfl, Nat.le_refl _⟩
        · exact ⟨1, rfl, by omega⟩
      obtain ⟨re, e1, e2⟩ := this
      rw [e1]
      exact q re e2
    · wtm_at "gs"
      exact q n (Nat.le_refl _)
theorem cmp20 {tix : TE} {row : Addr} {re off : Nat} {cnt : Int} {e0 e1 e2 e3 : Int} {Q : VK} {s11 s13 s14 s15 s16 s18 s19 s20 : Option V} (hre : re ≤ n) (hrow : H row = some (.lst (iv [e0, e1, e2, e3]))) (h0 : 0 ≤ cnt) (h1 : off + cnt ≤ 4)
    (hix : ∀ (k : Nat) H' Q', Q' (.int ((off + k : Nat) : Int)) H' → tix ((wipe (drS a sc n fr nr de th nm ob lk [s11, some (.ref row), s13, s14, s15, s16, some (.int (re : Int)), s18, s19, s20]) [11]).set 11 (some (.int (k : Int)))) H' Q')
    (q : ∀ D H' ws, Same H H' → H D = none → H' D = some (.lst (iv ws)) → Vals' n ws → ws.length ≤ 5 → Q (.ref D) H') :
    rRng1 (LcK (gName 11) (tTest (tOp rGtI (tVar 17) (tC (.int 0)))) (tOp rAddI (tOp rMulI (tC (.int 2)) (tOp rModI (tCB rIntQ (tCons (tOp (rIx K) (tVar 12) tix) tNil)) (tVar 17))) (tC (.int 2))) [11] (drS a sc n fr nr de th nm ob lk [s11, some (.ref row), s13, s14, s15, s16, some (.int (re : Int)), s18, s19, s20]) Q) [.int cnt] H := by
  refine l_rng (by omega) (fun D i H' => Same H H' ∧ ∃ ws, H' D = some (.lst (iv ws)) ∧ Vals' n ws ∧ ws.length ≤ i) (fun D nD => ⟨same_new nD, [], upd_same, fun _ h => (by cases h), Nat.le_refl _⟩) ?_ ?_
  · rintro D i H' nD hi ⟨s, ws, hD, hv, hl⟩
    wtm_at "gs"
    refine ⟨rfl, ?_⟩
    wtm_at "gs"
    refine itd (fun e => ?_) (fun e => ?_)
    · wtm_at "gs"
      refine hix _ _ _ ?_
      have hj : off + i < [e0, e1, e2, e3].length := by
        show off + i < 4
        omega
      refine w_ixn (.l (s _ _ hrow)) (iv_get (List.getElem?_eq_getElem hj)) ?_
      wtm_at "gs"
      have mi := mod_in ([e0, e1, e2, e3][off + i]) (s := (re : Int)) (by omega)
      refine kept hD (by rw [iv_len]; omega) ⟨same_mut s nD, ws ++ [2 * ([e0, e1, e2, e3][off + i] % (re : Int)) + 2], ?_, ?_, ?_⟩
      · exact upd_same.trans (iv_snoc _ _)
      · intro w hw
        rcases List.mem_append.mp hw with hw | hw
        · exact hv w hw
        · rw [List.mem_singleton.mp hw]
          exact .inr (.inr ⟨([e0, e1, e2, e3][off + i] % (re : Int)).toNat, by omega, by omega⟩)
      · rw [List.length_append]
        show ws.length + 1 ≤ i + 1
        omega
    · exact ⟨s, ws, hD, hv, by omega⟩
  · rintro D H' nD ⟨s, ws, hD, hv, hl⟩
    exact q D H' ws s nD hD hv (by omega)
theorem VPic.more {n B B' : Nat} {P : Pic} (v : VPic n B P) (h : B ≤ B') : VPic n B' P :=
  ⟨fun ws hw => ⟨(v.rows ws hw).1, Nat.le_trans (v.rows ws hw).2 h⟩, fun ws hw => ⟨(v.pays ws hw).1, Nat.le_trans (v.pays ws hw).2 h⟩, v.cnt, Nat.le_trans v.frs h⟩
theorem dr22 {d0 d1 d2 d3 d4 d5 d6 d7 d8 d9 d10 : Int} {m : Nat} {s11 s12 s13 s14 s15 s16 s17 s18 s20 : Option V} {x : V} (hsc : Hs sc = some (.lst (iv [d0, d1, d2, d3, d4, d5, d6, d7, d8, d9, d10]))) (D : Dr Hs Hf H A n 5 ob lk) (S : Skel Hf x A n m) (hn : n ≤ 32) (hm : m ≤ 1000)
    (q : ∀ H', Dr Hs Hf H' A n 69 ob lk → nx (drS a sc n fr nr de th nm ob lk [s11, s12, s13, s14, s15, s16, s17, s18, some x, s20]) H') : t_dr22 K ⟨nx, r, b, c⟩ (drS a sc n fr nr de th nm ob lk [s11, s12, s13, s14, s15, s16, s17, s18, some x, s20]) H := by
  unfold t_dr22
  wtm_at "gs"
  cases fr with
  | true =>
    refine iteF ?_
    wtm_at "gs"
    exact q H ⟨D.m.more (by omega), D.s, D.o, D.l⟩
  | false =>
    refine iteT ?_
    wtm_at "gs"
    refine w_ixn (k := 1) (.l (D.m.sf _ _ (D.s _ _ hsc))) rfl ?_
    wtm_at "gs"
    refine newL (by simp) fun t H1 nt s1 ht => ?_
    refine w_inS (.l ht) rfl rfl fun b1 => ?_
    wtm_at "gs"
    refine w_ixn (k := 1) (.l (s1 _ _ (D.m.sf _ _ (D.s _ _ hsc)))) rfl ?_
    wtm_at "gs"
    refine newL (by simp) fun t2 H2 nt2 s2 ht2 => ?_
    refine w_inS (.l ht2) rfl rfl fun b2 => ?_
    wtm_at "gs"
    refine ⟨x, lk, b1, nr, b2, Hf, A, n, 5, m, rfl, D.m.same (s1.trans s2), S, D.l, by omega, by omega, hm, fun H3 M3 => ?_⟩
    wtm_at "gs"
    exact q H3 ⟨M3.more (by omega), D.s, D.o, D.l⟩
end
theorem len__law_drawn (K : PySem.W.Frag) (vs : List V) (H : Hp) (Q : VK) (E : XK) (h : sp__law_drawn K vs H Q E) : vs.length = (["_law_cells", "_law_at"] : List Str).length := by
  obtain ⟨a, ns, rfl, _⟩ := h
  rfl
theorem pure__law_drawn (K : PySem.W.Frag) (vs : List V) (H : Hp) (Q : VK) (E : XK) (h : sp__law_drawn K vs H Q E) : t__law_drawn K { nx := fun _ H' => Q .non H', rt := Q } (start ["_law_cells", "_law_at", "_law_script", "_law_many", "_law_free", "_law_narrow", "_law_dense", "_law_thin", "_law_names", "_law_objects", "_law_links", "_law_k", "_law_row", "_law_statics", "_law_frames", "_law_slots", "_law_stack", "_law_reach", "_law_lists", "_law_parts", "_law_one"] vs) H := by
  obtain ⟨a, ns, rfl, ha, q⟩ := h
  show tSeq (t_dr1 K) (tSeq (t_dr2 K) (tSeq (t_dr3 K) (tSeq (t_dr4 K) (tSeq (t_dr5 K) (tSeq (t_dr6 K) (tSeq (t_dr7 K) (tSeq (t_dr8 K) (tSeq (t_dr9 K) (tSeq (t_dr10 K) (tSeq (t_dr11 K) (tSeq (t_dr12 K) (tSeq (t_dr13 K) (tSeq (t_dr14 K) (tSeq (t_dr15 K) (tSeq (t_dr16 K) (tSeq (t_dr17 K) (tSeq (t_dr18 K) (tSeq (t_dr19 K) (tSeq (t_dr20 K) (tSeq (t_dr21 K) (tSeq (t_dr22 K) (tSeq (t_dr23 K) (t_dr24 K))))))))))))))))))))))) _ _ _
  refine w_seq ?_
  unfold t_dr1
  wtm_at "gs"
  refine ⟨a, ns, _, rfl, ha, by decide, by decide, fun z => ?_⟩
  wtm_at "gs"
  refine newL (by simp) fun t1 H1 nt1 s1 ht1 => ?_
  wtm_at "gs"
  refine cell_digits (ss := [13, 8, 3, 4, 6, 3, 3, 8, 64, 64, 16]) ht1 (by decide) (by decide) (fun H2 sc ds s2 nsc hsc hd => ?_) z
  obtain ⟨d0, ds, rfl, g0, g0', hd⟩ := dcons hd
  obtain ⟨d1, ds, rfl, g1, g1', hd⟩ := dcons hd
  obtain ⟨d2, ds, rfl, g2, g2', hd⟩ := dcons hd
  obtain ⟨d3, ds, rfl, g3, g3', hd⟩ := dcons hd
  obtain ⟨d4, ds, rfl, g4, g4', hd⟩ := dcons hd
  obtain ⟨d5, ds, rfl, g5, g5', hd⟩ := dcons hd
  obtain ⟨d6, ds, rfl, g6, g6', hd⟩ := dcons hd
  obtain ⟨d7, ds, rfl, g7, g7', hd⟩ := dcons hd
  obtain ⟨d8, ds, rfl, g8, g8', hd⟩ := dcons hd
  obtain ⟨d9, ds, rfl, g9, g9', hd⟩ := dcons hd
  obtain ⟨d10, ds, rfl, g10, g10', hd⟩ := dcons hd
  obtain rfl := dnil hd
  have s02 := s1.trans s2
  unfold t_dr2
  wtm_at "gs"
  refine newL (by simp) fun t3 H3 nt3 s3 ht3 => ?_
  wtm_at "gs"
  refine w_ixn (k := 0) (.l (s3 _ _ hsc)) rfl ?_
  obtain ⟨m, em, hm⟩ := iv_pick (cs := [9, 12, 6, 7, 3, 11, 5, 8, 1, 4, 10, 2, 0]) (R := fun t => 0 ≤ t ∧ t ≤ 12) g0 g0' (by simp)
  refine w_ix (.l ht3) em ?_
  wtm_at "gs"
  refine dr3 (a := a) (m := m) (rest := [none, none, none, none, none, none, none, none, none, none, none, none, none, none, none, none, none]) (s3 _ _ hsc) fun m2 H4 s4 hm2 => ?_
  obtain ⟨n, rfl⟩ : ∃ n : Nat, m2 = (n : Int) := nat_of (by omega)
  have hn : n ≤ 32 := by omega
  have s04 := s02.trans (s3.trans s4)
  have hsc4 := s4 _ _ (s3 _ _ hsc)
  unfold t_dr4 t_dr5 t_dr6 t_dr7 t_dr8 t_dr9 t_dr10
  wtm_at "gs"
  refine w_ixn (k := 1) (.l hsc4) rfl ?_
  wtm_at "gs"
  refine w_ixn (k := 1) (.l hsc4) rfl ?_
  wtm_at "gs"
  refine newL (by simp) fun t5 H5 nt5 s5 ht5 => ?_
  wtm_at "gs"
  refine w_ixn (k := 2) (.l (s5 _ _ hsc4)) rfl ?_
  obtain ⟨de, ede, _⟩ := iv_pick (cs := [1, 2, 4]) (R := fun t => True) g2 g2' (by simp)
  refine w_ix (.l ht5) ede ?_
  wtm_at "gs"
  refine newL (by simp) fun t6 H6 nt6 s6 ht6 => ?_
  wtm_at "gs"
  obtain ⟨th, eth, _⟩ := iv_pick (cs := [1, 3, 0]) (i := (if decide (d1 = 0) = true then 1 else 0) + 2 * (if decide (3 < d1) = true then 1 else 0)) (R := fun t => True) (by simp only [decide_eq_true_eq]; split <;> split <;> omega) (by simp only [decide_eq_true_eq]; show _ < (3 : Int); split <;> split <;> omega) (by simp)
  refine w_ix (.l ht6) eth ?_
  wtm_at "gs"
  refine newL (by simp) fun nm Hs nnm s7 hnm => ?_
  have s0s := s04.trans (s5.trans (s6.trans s7))
  have hscs := s7 _ _ (s6 _ _ (s5 _ _ hsc4))
  have has := sql_same s0s ha
  clear em eth ede
  wtm_at "gs"
  refine newL (by simp) fun ob H8 nob s8 hob => ?_
  wtm_at "gs"
  refine newL (by simp) fun lk H9 nlk s9 hlk => ?_
  have b0 : ObB Hs Hs H9 [] n 0 0 ob lk [] [] :=
    ⟨⟨s8.trans s9, fun _ h => (by cases h), fun _ h => (by cases h)⟩, fun _ _ h => h, ⟨nob, fun h => (by cases h), s9 _ _ hob⟩, ⟨s8.free nlk, fun h => (by cases h), hlk⟩, ne_of_none hob nlk, rfl, rfl, fun _ h => (by cases h), fun _ h => (by cases h)⟩
  wtm_at "gs"
  refine dr11 (fr := decide (d1 = 0)) (nr := decide (3 < d1)) (de := de) (th := th) (sc := sc) (s11 := none) (s12 := none) (r9 := [none, none, none, none, none, none, none, none]) has hnm hn b0 fun s11 s12 Hf H10 A dd => ?_
  generalize decide (d1 = 0) = fr
  generalize decide (3 < d1) = nr
  unfold t_dr12 t_dr13 t_dr14
  wtm_at "gs"
  refine ⟨a, ns, _, rfl, sql_same (dd.s.trans dd.m.sf) has, by decide, by decide, fun z => ?_⟩
  wtm_at "gs"
  refine newL (by simp) fun t11 H11 n11 s11' h11 => ?_
  wtm_at "gs"
  refine w_rep h11 (by decide) (by decide) (by decide) fun t12 H12 n12 s12' h12 => ?_
  wtm_at "gs"
  refine cell_digits (ss := [8, 64, 4294967296, 8, 64, 4294967296, 8, 64, 4294967296]) h12 (by decide) (by decide) (fun H13 p ds s13 np hp hd => ?_) z
  have hlen := hd.length
  have d13 := (dd.same (s11'.trans s12')).grow s13 np hp
  have hp13 : (upd Hf p (.lst (iv ds))) p = some (.lst (iv ds)) := upd_same
  generalize upd Hf p (.lst (iv ds)) = Hf at d13 hp13
  wtm_at "gs"
  refine w_ixn (k := 3) (.l (d13.m.sf _ _ (d13.s _ _ hscs))) rfl ?_
  wtm_at "gs"
  obtain ⟨cs, rfl⟩ := nat_of g3
  refine ⟨p, _, 0, cs, n, th, rfl, d13.m.sf _ _ hp13, ?_, by omega, fun H14 st ws s14 nst hst hwl hwv => ?_⟩
  · rw [hlen]
    show 0 + 3 * cs ≤ 9
    omega
  have d14 := d13.add s14 nst hst hwv (by omega)
  wtm_at "gs"
  refine newL (by simp) fun fm H15 nfm s15 hfm => ?_
  have nA : fm ∉ st :: A := fun z => by
    obtain ⟨ws, e, _⟩ := d14.m.ok fm z
    rw [nfm] at e
    cases e
  have b15 : FrB Hs Hf H15 (st :: A) n 0 ob lk st fm [] := ⟨d14.same s15, ⟨d14.m.sf.free nfm, nA, hfm⟩, List.mem_cons_self, rfl, fun _ h => (by cases h)⟩
  generalize st :: A = A at b15
  wtm_at "gs"
  refine dr15 (fr := fr) (nr := nr) (de := de) (th := th) (nm := nm) (s11 := s11) (s12 := some (.ref p)) (s13 := some (.ref st)) (s15 := none) (s16 := none) (r9 := [none, none, none, none]) has hscs g4 g4' b15 fun s11 s12 s15 s16 Hf H16 A fs k b16 hk => ?_
  wtm_at "gs"
  refine dr16 (fr := fr) (nr := nr) (de := de) (th := th) (nm := nm) (s11 := s11) (s12 := s12) (s13 := some (.ref st)) (s15 := s15) (s16 := s16) (s17 := none) (s18 := none) (s19 := none) hscs b16 hk fun Hf H17 A fs fm k b17 hk => ?_
  unfold t_dr17 t_dr18
  wtm_at "gs"
  refine ⟨a, ns, _, rfl, sql_same (b17.d.s.trans b17.mf) has, by decide, by decide, fun z => ?_⟩
  wtm_at "gs"
  refine newL (by simp) fun t18 H18 n18 s18 h18 => ?_
  wtm_at "gs"
  refine w_rep h18 (by decide) (by decide) (by decide) fun t19 H19 n19 s19 h19 => ?_
  wtm_at "gs"
  refine cell_digits (ss := [64, 64, 64, 64]) h19 (by decide) (by decide) (fun H20 p2 ds s20 np2 hp2 hd => ?_) z
  obtain ⟨e0, ds, rfl, l0, l0', hd⟩ := dcons hd
  obtain ⟨e1, ds, rfl, l1, l1', hd⟩ := dcons hd
  obtain ⟨e2, ds, rfl, l2, l2', hd⟩ := dcons hd
  obtain ⟨e3, ds, rfl, l3, l3', hd⟩ := dcons hd
  obtain rfl := dnil hd
  have b20 := (b17.same (s18.trans s19)).grow s20 np2 hp2
  have hp20 : (upd Hf p2 (.lst (iv [e0, e1, e2, e3]))) p2 = some (.lst (iv [e0, e1, e2, e3])) := upd_same
  generalize upd Hf p2 (.lst (iv [e0, e1, e2, e3])) = Hf at b20 hp20
  wtm_at "gs"
  refine dr19 (fr := fr) (nr := nr) (de := de) (th := th) (nm := nm) (s11 := s11) (s12 := some (.ref p2)) (s13 := some (.ref st)) (s14 := some (.ref fm)) (s15 := s15) (s16 := s16) (s18 := none) (s19 := none) (s20 := none) (b20.mf _ _ (b20.d.s _ _ hscs)) fun re hre => ?_
  unfold t_dr20
  wtm_at "gs"
  refine w_ixn (k := 5) (.l (b20.mf _ _ (b20.d.s _ _ hscs))) rfl ?_
  wtm_at "gs"
  refine cmp20 (off := 0) hre (b20.mf _ _ hp20) g5 (by omega) (fun k H' Q' hQ => ?_) fun D1 H21 ws1 s21 nD1 hD1 hv1 hl1 => ?_
  · wtm_at "gs"
    rw [Nat.zero_add] at hQ
    exact hQ
  have b21 := b20.add s21 nD1 hD1 hv1 hl1
  wtm_at "gs"
  refine w_ixn (k := 6) (.l (b21.mf _ _ (b21.d.s _ _ hscs))) rfl ?_
  wtm_at "gs"
  refine cmp20 (off := 2) hre (b21.mf _ _ hp20) g6 (by omega) (fun k H' Q' hQ => ?_) fun D2 H22 ws2 s22 nD2 hD2 hv2 hl2 => ?_
  · wtm_at "gs"
    rw [Int.natCast_add] at hQ
    exact hQ
  have b22 := b21.add s22 nD2 hD2 hv2 hl2
  wtm_at "gs"
  refine newL (by simp) fun li H23 nli s23 hli => ?_
  have b23 := b22.grow s23 nli hli
  have hli23 : (upd Hf li (.lst [.ref D1, .ref D2])) li = some (.lst [.ref D1, .ref D2]) := upd_same
  generalize upd Hf li (.lst [.ref D1, .ref D2]) = Hf at b23 hli23
  unfold t_dr21
  obtain ⟨d24, hfm, hst, hfl, hff⟩ := b23.done
  have hli24 := (same_new b23.b.no : Same Hf (upd Hf fm (.lst fs))) _ _ hli23
  generalize upd Hf fm (.lst fs) = Hf at d24 hfm hff hli24
  wtm_at "gs"
  refine w_ixn (k := 0) (.l (d24.m.sf _ _ hli24)) rfl ?_
  wtm_at "gs"
  refine w_ixn (k := 1) (.l (d24.m.sf _ _ hli24)) rfl ?_
  wtm_at "gs"
  refine newL (by simp) fun x H25 nx s25 hx => ?_
  have sF : Same Hf (upd Hf x (.lst [.ref st, .ref fm, .ref D1, .ref D2, .ref ob])) := same_new (d24.m.sf.free nx)
  have d25 := d24.grow s25 nx hx
  have hx25 : (upd Hf x (.lst [.ref st, .ref fm, .ref D1, .ref D2, .ref ob])) x = some (.lst [.ref st, .ref fm, .ref D1, .ref D2, .ref ob]) := upd_same
  replace hfm := sF _ _ hfm
  replace hff := fun y hy => (hff y hy).mono sF fun _ h => h
  generalize upd Hf x (.lst [.ref st, .ref fm, .ref D1, .ref D2, .ref ob]) = Hf at d25 hx25 hfm hff
  have S : Skel Hf (.ref x) (D2 :: D1 :: A) n 40 := by
    obtain ⟨os, h1, h2, h3⟩ := d25.o
    exact ⟨x, st, fm, D1, D2, ob, fs, os, rfl, hx25, hst, List.mem_cons_of_mem _ List.mem_cons_self, List.mem_cons_self, hfm, hff, h1, h2, by omega, h3⟩
  wtm_at "gs"
  refine dr22 (fr := fr) (nr := nr) (de := de) (th := th) (nm := nm) (s11 := s11) (s12 := some (.ref p2)) (s13 := some (.ref st)) (s14 := some (.ref fm)) (s15 := s15) (s16 := s16) (s17 := some (.int (re : Int))) (s18 := some (.ref li)) (s20 := none) (x := .ref x) hscs d25 S hn (by omega) fun H26 d26 => ?_
  unfold t_dr23 t_dr24
  wtm_at "gs"
  refine ⟨7, rfl, ?_⟩
  wtm_at "gs"
  refine w_slL (.of (d26.m.sf _ _ (d26.s _ _ hscs))) fun sl H27 nsl s27 hsl => ?_
  replace hsl : H27 sl = some (.lst (iv [d7, d8, d9, d10])) := hsl.trans (by rw [show cutV (iv [d0, d1, d2, (cs : Int), d4, d5, d6, d7, d8, d9, d10]) (some 7) none = iv [d7, d8, d9, d10] from cut_from _ 7])
  have sF27 : Same Hf (upd Hf sl (.lst (iv [d7, d8, d9, d10]))) := same_new (d26.m.sf.free nsl)
  have d27 := d26.grow s27 nsl hsl
  have hsl27 : (upd Hf sl (.lst (iv [d7, d8, d9, d10]))) sl = some (.lst (iv [d7, d8, d9, d10])) := upd_same
  have S27 := S.mono sF27
  generalize upd Hf sl (.lst (iv [d7, d8, d9, d10])) = Hf at d27 hsl27 S27
  wtm_at "gs"
  refine ⟨.ref x, sl, d7, d8, d9, [d10], Hf, _, n, 69, 40, rfl, d27.m, S27, hsl, g7, g7', g8, g8', g9, g9', by rw [hsl27, hsl], by omega, by omega, by omega, fun H28 M28 => ?_⟩
  wtm_at "gs"
  obtain ⟨P, hP, VP⟩ := skel_pic (K := K) M28 S27 (by omega)
  refine ⟨.ref x, P, n, 69 + 2000, rfl, hP, VP, by omega, by omega, fun H29 y N s29 hN hNum => ?_⟩
  refine q H29 y N ((s0s.trans d27.s).trans (M28.sf.trans s29)) hN ⟨P, ?_, by rw [VP.cnt]; exact hn, hNum⟩
  rw [VP.cnt]
  exact VP.more (by omega)
/-! ### .. copies of a picture, mirrored -/
def tCp (K : PySem.W.Frag) (rev : Bool) (te : TE) : TE := match rev with
  | true => tRevL K (tCB (rLstQ K) (tCons te tNil))
  | false => tCB (rLstQ K) (tCons te tNil)
def rv (rev : Bool) (ws : List Int) : List Int := match rev with
  | true => ws.reverse
  | false => ws
theorem rv_mem {rev : Bool} {ws : List Int} {w : Int} (h : w ∈ rv rev ws) : w ∈ ws := by
  cases rev
  · exact h
  · exact List.mem_reverse.mp h
theorem rv_len (rev : Bool) (ws : List Int) : (rv rev ws).length = ws.length := by
  cases rev
  · rfl
  · exact List.length_reverse
theorem w_cp {K : PySem.W.Frag} {rev : Bool} {σ : L2.St} {H : Hp} {Q : VK} {j k : Nat} {a l : Addr} {zs : List V} {ws : List Int} (hj : σ[j]? = some (some (.ref a))) (ha : Sq K H a zs) (hk : zs[k]? = some (.ref l)) (hl : Sq K H l (iv ws))
    (q : ∀ p H3, H p = none → Same H H3 → H3 p = some (.lst (iv (rv rev ws))) → Q (.ref p) H3) : tCp K rev (tOp (rIx K) (tVar j) (tC (.int (k : Int)))) σ H Q := by
  cases rev with
  | false =>
    refine w_cb (w_cons (w_op (w_var hj (w_c ?_))))
    refine w_ixn ha hk (w_nil ?_)
    exact w_list hl fun p H' np s e => q p H' np s e
  | true =>
    refine w_cb (w_cons (w_op (w_var hj (w_c ?_))))
    refine w_ixn ha hk (w_nil ?_)
    refine w_list hl fun p H' np s e => ?_
    refine ⟨p, _, rfl, .of e, fun p2 np2 => q p2 _ (s.free np2) (s.trans (same_new np2)) ?_⟩
    rw [upd_same]
    show some (HO.lst (iv ws).reverse) = some (HO.lst (iv ws.reverse))
    unfold iv
    rw [List.map_reverse]
def mirF (rev : Bool) (f : Frm) : Frm := ⟨f.name, f.place, rv rev f.slots, rv rev f.stack⟩
def mirO (rev : Bool) (o : Nm × List Int) : Nm × List Int := (o.1, rv rev o.2)
def mirP (rev : Bool) (P : Pic) : Pic := ⟨rv rev P.statics, P.frames.map (mirF rev), rv rev P.watched, rv rev P.parted, P.objs.map (mirO rev)⟩
theorem mir_rows (rev : Bool) (P : Pic) : (mirP rev P).rows = P.rows.map (rv rev) := by
  unfold mirP Pic.rows
  simp only [List.map_append, List.map_cons, List.map_nil, List.flatMap_map, List.map_flatMap]
  rfl
theorem mir_pays (rev : Bool) (P : Pic) : (mirP rev P).pays = P.pays.map (rv rev) := by
  unfold mirP Pic.pays
  simp only [List.map_map]
  rfl
theorem vals_rv {rev : Bool} {n : Nat} {ws : List Int} (h : Vals' n ws) : Vals' n (rv rev ws) := fun w hw => h w (rv_mem hw)
theorem mir_v {rev : Bool} {n B : Nat} {P : Pic} (h : VPic n B P) : VPic n B (mirP rev P) := by
  refine ⟨fun ws hw => ?_, fun ws hw => ?_, ?_, ?_⟩
  · rw [mir_rows] at hw
    obtain ⟨us, h1, rfl⟩ := List.mem_map.mp hw
    exact ⟨vals_rv (h.rows us h1).1, by rw [rv_len]; exact (h.rows us h1).2⟩
  · rw [mir_pays] at hw
    obtain ⟨us, h1, rfl⟩ := List.mem_map.mp hw
    exact ⟨vals_rv (h.pays us h1).1, by rw [rv_len]; exact (h.pays us h1).2⟩
  · show (P.objs.map _).length = n
    rw [List.length_map]
    exact h.cnt
  · show (P.frames.map _).length ≤ B
    rw [List.length_map]
    exact h.frs
theorem mir_f (P : Pic) : mirP false P = P := by
  unfold mirP
  have e1 : P.frames.map (mirF false) = P.frames := (List.map_congr_left fun f _ => show mirF false f = id f from rfl).trans (List.map_id _)
  have e2 : P.objs.map (mirO false) = P.objs := (List.map_congr_left fun f _ => show mirO false f = id f from rfl).trans (List.map_id _)
  rw [e1, e2]
  rfl
/-- a frame, an object of lists; their contents -/
def FC (Hf : Hp) (A : List Addr) (H : Hp) (x : V) (f : Frm) : Prop := ∃ a b c, x = .ref a ∧ Hf a = some (.lst [.str f.name.1, .int f.place, .ref b, .ref c]) ∧ b ∈ A ∧ c ∈ A ∧ H b = some (.lst (iv f.slots)) ∧ H c = some (.lst (iv f.stack))
def OC (Hf : Hp) (A : List Addr) (H : Hp) (x : V) (o : Nm × List Int) : Prop := ∃ a b, x = .ref a ∧ Hf a = some (.lst [.str o.1.1, .ref b]) ∧ b ∈ A ∧ H b = some (.lst (iv o.2))
section
variable {K : PySem.W.Frag} {Hf Hg H H' : Hp} {A A' : List Addr} {n B : Nat} {x : V} {f : Frm} {o : Nm × List Int} {D : Addr} {xs ys : List V}
theorem FC.mono (h : FC Hf A H x f) (s : Same Hf Hg) (m : ∀ a ∈ A, a ∈ A') (s' : ∀ b ∈ A, ∀ o, H b = some o → H' b = some o) : FC Hg A' H' x f := by
  obtain ⟨a, b, c, e, h1, h2, h3, h4, h5⟩ := h
  exact ⟨a, b, c, e, s _ _ h1, m _ h2, m _ h3, s' _ h2 _ h4, s' _ h3 _ h5⟩
theorem OC.mono (h : OC Hf A H x o) (s : Same Hf Hg) (m : ∀ a ∈ A, a ∈ A') (s' : ∀ b ∈ A, ∀ o, H b = some o → H' b = some o) : OC Hg A' H' x o := by
  obtain ⟨a, b, e, h1, h2, h3⟩ := h
  exact ⟨a, b, e, s _ _ h1, m _ h2, s' _ h2 _ h3⟩
theorem FC.rf (h : FC Hf A H x f) (s : Same Hf H) : RF (SL H) x f := by
  obtain ⟨a, b, c, e, h1, h2, h3, h4, h5⟩ := h
  exact ⟨a, _, _, e, s _ _ h1, ⟨b, rfl, h4⟩, ⟨c, rfl, h5⟩⟩
theorem OC.ro (h : OC Hf A H x o) (s : Same Hf H) : RO (SL H) x o := by
  obtain ⟨a, b, e, h1, h2, h3⟩ := h
  exact ⟨a, _, e, s _ _ h1, ⟨b, rfl, h3⟩⟩
theorem FC.fx (h : FC Hf A H x f) : FX Hf A x := by
  obtain ⟨a, b, c, e, h1, h2, h3, h4, h5⟩ := h
  exact ⟨a, _, _, b, c, e, h1, h2, h3⟩
theorem OC.ox (h : OC Hf A H x o) : OX Hf A x := by
  obtain ⟨a, b, e, h1, h2, h3⟩ := h
  exact ⟨a, _, b, e, h1, h2⟩
theorem new_bld (M : Mt Hf H A n B) (nD : H D = none) : Bld Hf (upd H D (.lst [])) A D [] :=
  ⟨M.sf.free nD, fun z => (by
    obtain ⟨ws, e, _⟩ := M.ok D z
    rw [nD] at e
    cases e), upd_same⟩
end
section
variable {K : PySem.W.Frag} {H0 Hf H : Hp} {A : List Addr} {n B : Nat} {a : Addr} {xs : List V} {σ : L2.St} {j : Nat} {Q : VK} {rev : Bool}
theorem cp_frames {fs : List Frm} (s0 : Same H0 Hf) (ha : Sq K H0 a xs) (hp : Paired (RF (SQ K H0)) xs fs) (M : Mt Hf H A n B) (hv : ∀ f ∈ fs, (Vals' n f.slots ∧ f.slots.length ≤ B) ∧ Vals' n f.stack ∧ f.stack.length ≤ B) (hl : fs.length ≤ 100000)
    (hσ : ∀ v : V, ((wipe σ [j]).set j (some v))[j]? = some (some v)) (hw : ∀ v : V, wipe ((wipe σ [j]).set j (some v)) [j] = wipe σ [j])
    (q : ∀ D H' Hg A' ys, Same Hf Hg → Same H H' → H D = none → (∀ a ∈ A, a ∈ A') → Mt Hg H' A' n B → Bld Hg H' A' D ys → Paired (FC Hg A' H') ys (fs.map (mirF rev)) → Q (.ref D) H') :
    rSeqIt K (LcK (gName j) tYes (tLst (tCons (tOp (rIx K) (tVar j) (tC (.int 0))) (tCons (tOp (rIx K) (tVar j) (tC (.int 1))) (tCons (tCp K rev (tOp (rIx K) (tVar j) (tC (.int 2)))) (tCons (tCp K rev (tOp (rIx K) (tVar j) (tC (.int 3)))) tNil))))) [j] σ Q) (.ref a) H := by
  refine l_seq0 ha (s0.trans M.sf) (fun D i H' => ∃ Hg A' ys, Same Hf Hg ∧ Same H H' ∧ (∀ a ∈ A, a ∈ A') ∧ Mt Hg H' A' n B ∧ Bld Hg H' A' D ys ∧ Paired (FC Hg A' H') ys ((fs.map (mirF rev)).take i)) (fun D nD => ⟨Hf, A, [], fun _ _ h => h, same_new nD, fun _ h => h, M.same (same_new nD), new_bld M nD, .nil⟩) (fun D i H' nD ⟨Hg, _, _, s, _, _, m, _⟩ => s0.trans (s.trans m.sf)) ?_ ?_
  · rintro D i z H' nD hz ⟨Hg, A', ys, sg, sh, hA, m, b, P⟩
    obtain ⟨f, hf, a1, x, y, rfl, h1, ⟨l2, rfl, h2⟩, ⟨l3, rfl, h3⟩⟩ := pgetL hp hz
    have s1 := s0.trans (sg.trans m.sf)
    have hvf := hv f (List.mem_of_getElem? hf)
    have hlen : ys.length ≤ 100000 := by
      rw [P.length, List.length_take, List.length_map]
      omega
    wtm_at "gs"
    refine ⟨hw _, ?_⟩
    wtm_at "gs"
    refine w_var (hσ _) ?_
    wtm_at "gs"
    refine w_ixn (k := 0) (h1.same s1) rfl ?_
    wtm_at "gs"
    refine w_var (hσ _) ?_
    wtm_at "gs"
    refine w_ixn (k := 1) (h1.same s1) rfl ?_
    wtm_at "gs"
    refine w_cp (k := 2) (hσ _) (h1.same s1) rfl (h2.same s1) fun p2 H2 np2 s2 hp2 => ?_
    have m2 := m.add s2 np2 hp2 (vals_rv hvf.1.1) (by rw [rv_len]; exact hvf.1.2)
    have b2 := b.add s2 np2
    have s12 := s1.trans s2
    wtm_at "gs"
    refine w_cp (k := 3) (hσ _) (h1.same s12) rfl (h3.same s12) fun p3 H3 np3 s3 hp3 => ?_
    have m3 := m2.add s3 np3 hp3 (vals_rv hvf.2.1) (by rw [rv_len]; exact hvf.2.2)
    have b3 := b2.add s3 np3
    wtm_at "gs"
    refine newL (by simp) fun u H4 nu s4 hu => ?_
    have m4 := m3.grow s4 nu hu
    have b4 := b3.grow s4 nu (u := .lst [.str f.name.1, .int f.place, .ref p2, .ref p3])
    have su : Same Hg (upd Hg u (.lst [.str f.name.1, .int f.place, .ref p2, .ref p3])) := same_new (m3.sf.free nu)
    have hu4 : (upd Hg u (.lst [.str f.name.1, .int f.place, .ref p2, .ref p3])) u = some (.lst [.str f.name.1, .int f.place, .ref p2, .ref p3]) := upd_same
    generalize upd Hg u (.lst [.str f.name.1, .int f.place, .ref p2, .ref p3]) = Hh at m4 b4 su hu4
    have ef : (fs.map (mirF rev))[i]? = some (mirF rev f) := by
      rw [List.getElem?_map, hf]
      rfl
    have s24 := s2.trans (s3.trans s4)
    refine kept b4.at_ (by omega) ⟨Hh, p3 :: p2 :: A', _, sg.trans su, ?_, fun y hy => List.mem_cons_of_mem _ (List.mem_cons_of_mem _ (hA y hy)), m4.side b4.no b4.na, b4.put, ?_⟩
    · exact same_mut (sh.trans s24) nD
    · rw [take_get ef]
      have keep : ∀ y ∈ p3 :: p2 :: A', ∀ o, H4 y = some o → (upd H4 D (.lst (ys ++ [.ref u]))) y = some o := fun y hy o e => get_ne e fun z => b4.na (z ▸ hy)
      refine papp (Paired.mapP P fun _ _ z => z.mono su (fun y hy => List.mem_cons_of_mem _ (List.mem_cons_of_mem _ hy)) fun y hy o e => keep y (List.mem_cons_of_mem _ (List.mem_cons_of_mem _ hy)) o (s24 _ _ e)) (.cons ⟨u, p2, p3, rfl, hu4, List.mem_cons_of_mem _ List.mem_cons_self, List.mem_cons_self, ?_, ?_⟩ .nil)
      · exact keep _ (List.mem_cons_of_mem _ List.mem_cons_self) _ (s4 _ _ (s3 _ _ hp2))
      · exact keep _ List.mem_cons_self _ (s4 _ _ hp3)
  · rintro D H' nD ⟨Hg, A', ys, sg, sh, hA, m, b, P⟩
    rw [show xs.length = (fs.map (mirF rev)).length by rw [hp.length, List.length_map], List.take_length] at P
    exact q D H' Hg A' ys sg sh nD hA m b P
theorem cp_objs {fs : List (Nm × List Int)} (s0 : Same H0 Hf) (ha : Sq K H0 a xs) (hp : Paired (RO (SQ K H0)) xs fs) (M : Mt Hf H A n B) (hv : ∀ f ∈ fs, Vals' n f.2 ∧ f.2.length ≤ B) (hl : fs.length ≤ 100000)
    (hσ : ∀ v : V, ((wipe σ [j]).set j (some v))[j]? = some (some v)) (hw : ∀ v : V, wipe ((wipe σ [j]).set j (some v)) [j] = wipe σ [j])
    (q : ∀ D H' Hg A' ys, Same Hf Hg → Same H H' → H D = none → (∀ a ∈ A, a ∈ A') → Mt Hg H' A' n B → Bld Hg H' A' D ys → Paired (OC Hg A' H') ys (fs.map (mirO rev)) → Q (.ref D) H') :
    rSeqIt K (LcK (gName j) tYes (tLst (tCons (tOp (rIx K) (tVar j) (tC (.int 0))) (tCons (tCp K rev (tOp (rIx K) (tVar j) (tC (.int 1)))) tNil))) [j] σ Q) (.ref a) H := by
  refine l_seq0 ha (s0.trans M.sf) (fun D i H' => ∃ Hg A' ys, Same Hf Hg ∧ Same H H' ∧ (∀ a ∈ A, a ∈ A') ∧ Mt Hg H' A' n B ∧ Bld Hg H' A' D ys ∧ Paired (OC Hg A' H') ys ((fs.map (mirO rev)).take i)) (fun D nD => ⟨Hf, A, [], fun _ _ h => h, same_new nD, fun _ h => h, M.same (same_new nD), new_bld M nD, .nil⟩) (fun D i H' nD ⟨Hg, _, _, s, _, _, m, _⟩ => s0.trans (s.trans m.sf)) ?_ ?_
  · rintro D i z H' nD hz ⟨Hg, A', ys, sg, sh, hA, m, b, P⟩
    obtain ⟨f, hf, a1, x, rfl, h1, ⟨l2, rfl, h2⟩⟩ := pgetL hp hz
    have s1 := s0.trans (sg.trans m.sf)
    have hvf := hv f (List.mem_of_getElem? hf)
    have hlen : ys.length ≤ 100000 := by
      rw [P.length, List.length_take, List.length_map]
      omega
    wtm_at "gs"
    refine ⟨hw _, ?_⟩
    wtm_at "gs"
    refine w_var (hσ _) ?_
    wtm_at "gs"
    refine w_ixn (k := 0) (h1.same s1) rfl ?_
    wtm_at "gs"
    refine w_cp (k := 1) (hσ _) (h1.same s1) rfl (h2.same s1) fun p2 H2 np2 s2 hp2 => ?_
    have m2 := m.add s2 np2 hp2 (vals_rv hvf.1) (by rw [rv_len]; exact hvf.2)
    have b2 := b.add s2 np2
    wtm_at "gs"
    refine newL (by simp) fun u H4 nu s4 hu => ?_
    have m4 := m2.grow s4 nu hu
    have b4 := b2.grow s4 nu (u := .lst [.str f.1.1, .ref p2])
    have su : Same Hg (upd Hg u (.lst [.str f.1.1, .ref p2])) := same_new (m2.sf.free nu)
    have hu4 : (upd Hg u (.lst [.str f.1.1, .ref p2])) u = some (.lst [.str f.1.1, .ref p2]) := upd_same
    generalize upd Hg u (.lst [.str f.1.1, .ref p2]) = Hh at m4 b4 su hu4
    have ef : (fs.map (mirO rev))[i]? = some (mirO rev f) := by
      rw [List.getElem?_map, hf]
      rfl
    have s24 := s2.trans s4
    refine kept b4.at_ (by omega) ⟨Hh, p2 :: A', _, sg.trans su, ?_, fun y hy => List.mem_cons_of_mem _ (hA y hy), m4.side b4.no b4.na, b4.put, ?_⟩
    · exact same_mut (sh.trans s24) nD
    · rw [take_get ef]
      have keep : ∀ y ∈ p2 :: A', ∀ o, H4 y = some o → (upd H4 D (.lst (ys ++ [.ref u]))) y = some o := fun y hy o e => get_ne e fun z => b4.na (z ▸ hy)
      refine papp (Paired.mapP P fun _ _ z => z.mono su (fun y hy => List.mem_cons_of_mem _ hy) fun y hy o e => keep y (List.mem_cons_of_mem _ hy) o (s24 _ _ e)) (.cons ⟨u, p2, rfl, hu4, List.mem_cons_self, ?_⟩ .nil)
      exact keep _ List.mem_cons_self _ (s4 _ _ hp2)
  · rintro D H' nD ⟨Hg, A', ys, sg, sh, hA, m, b, P⟩
    rw [show xs.length = (fs.map (mirO rev)).length by rw [hp.length, List.length_map], List.take_length] at P
    exact q D H' Hg A' ys sg sh nD hA m b P
end
/-! ### .. the mirrored picture; a picture stays -/
theorem len__law_mirrored (K : PySem.W.Frag) (vs : List V) (H : Hp) (Q : VK) (E : XK) (h : sp__law_mirrored K vs H Q E) : vs.length = (["_law_parts"] : List Str).length := by
  obtain ⟨x, N, n, B, rfl, _⟩ := h
  rfl
theorem pic_rows_v {n B : Nat} {P : Pic} (h : VPic n B P) : (Vals' n P.statics ∧ P.statics.length ≤ B) ∧ (∀ f ∈ P.frames, (Vals' n f.slots ∧ f.slots.length ≤ B) ∧ Vals' n f.stack ∧ f.stack.length ≤ B) ∧ (Vals' n P.watched ∧ P.watched.length ≤ B) ∧ (Vals' n P.parted ∧ P.parted.length ≤ B) ∧ (∀ o ∈ P.objs, Vals' n o.2 ∧ o.2.length ≤ B) := by
  have m_st : P.statics ∈ P.rows := List.mem_append.mpr (.inl (List.mem_append.mpr (.inl List.mem_cons_self)))
  have m_wa : P.watched ∈ P.rows := List.mem_append.mpr (.inr List.mem_cons_self)
  have m_pa : P.parted ∈ P.rows := List.mem_append.mpr (.inr (List.mem_cons_of_mem _ List.mem_cons_self))
  have m_fr : ∀ f ∈ P.frames, f.slots ∈ P.rows ∧ f.stack ∈ P.rows := fun f hf => ⟨List.mem_append.mpr (.inl (List.mem_append.mpr (.inr (List.mem_flatMap.mpr ⟨f, hf, List.mem_cons_self⟩)))), List.mem_append.mpr (.inl (List.mem_append.mpr (.inr (List.mem_flatMap.mpr ⟨f, hf, List.mem_cons_of_mem _ List.mem_cons_self⟩))))⟩
  exact ⟨h.rows _ m_st, fun f hf => ⟨h.rows _ (m_fr f hf).1, h.rows _ (m_fr f hf).2⟩, h.rows _ m_wa, h.rows _ m_pa, fun o ho => h.pays o.2 (List.mem_map.mpr ⟨o, ho, rfl⟩)⟩
theorem mt_nil (H : Hp) (n B : Nat) : Mt H H [] n B := ⟨fun _ _ h => h, fun _ h => (by cases h), fun _ h => (by cases h)⟩
theorem w_rev {K : PySem.W.Frag} {σ : L2.St} {H : Hp} {Q : VK} {j k : Nat} {a l : Addr} {zs : List V} {ws : List Int} (hj : σ[j]? = some (some (.ref a))) (ha : Sq K H a zs) (hk : zs[k]? = some (.ref l)) (hl : Sq K H l (iv ws))
    (q : ∀ p H3, H p = none → Same H H3 → H3 p = some (.lst (iv (rv true ws))) → Q (.ref p) H3) : tRevL K (tCB (rLstQ K) (tCons (tOp (rIx K) (tVar j) (tC (.int (k : Int)))) tNil)) σ H Q := w_cp (rev := true) hj ha hk hl q
theorem pure__law_mirrored (K : PySem.W.Frag) (vs : List V) (H : Hp) (Q : VK) (E : XK) (h : sp__law_mirrored K vs H Q E) : t__law_mirrored K { nx := fun _ H' => Q .non H', rt := Q } (start ["_law_parts", "_law_frames", "_law_objects", "_law_frame", "_law_one"] vs) H := by
  obtain ⟨x, N, n, B, rfl, hN, VN, hn, hB, q⟩ := h
  obtain ⟨v0, vf, v2, v3, vo⟩ := pic_rows_v VN
  obtain ⟨a, x0, x1, x2, x3, x4, rfl, ha, ⟨a0, rfl, h0⟩, ⟨a1, fs, rfl, h1, pf⟩, ⟨a2, rfl, h2⟩, ⟨a3, rfl, h3⟩, ⟨a4, os, rfl, h4, po⟩⟩ := hN.any
  have lf : N.frames.length ≤ 100000 := Nat.le_trans VN.frs (by omega)
  have lo : N.objs.length ≤ 100000 := by
    rw [VN.cnt]
    omega
  unfold t__law_mirrored
  wtm_at "gs"
  refine w_ixn (k := 1) ha rfl ?_
  refine cp_frames (rev := true) (j := 3) (fun _ _ h => h) h1 pf (mt_nil H n B) vf lf (fun _ => rfl) (fun _ => rfl) fun D1 H1 Hg1 A1 ys s01 _ nD1 hA1 m1 b1 pf1 => ?_
  have m1' := m1.freeze b1.at_ b1.na
  have s1f : Same Hg1 (upd Hg1 D1 (.lst ys)) := same_new b1.no
  have e1 : (upd Hg1 D1 (.lst ys)) D1 = some (.lst ys) := upd_same
  replace pf1 := Paired.mapP pf1 fun _ _ z => z.mono s1f (fun _ h => h) fun _ _ _ e => e
  replace s01 := s01.trans s1f
  generalize upd Hg1 D1 (.lst ys) = Hg1 at m1' e1 pf1 s01
  wtm_at "gs"
  refine w_ixn (k := 4) (ha.same (s01.trans m1'.sf)) rfl ?_
  refine cp_objs (rev := true) (j := 4) s01 h4 po m1' vo lo (fun _ => rfl) (fun _ => rfl) fun D2 H2 Hg2 A2 zs s12 sh2 nD2 hA2 m2 b2 po2 => ?_
  have m2' := m2.freeze b2.at_ b2.na
  have s2f : Same Hg2 (upd Hg2 D2 (.lst zs)) := same_new b2.no
  have e2 : (upd Hg2 D2 (.lst zs)) D2 = some (.lst zs) := upd_same
  replace po2 := Paired.mapP po2 fun _ _ z => z.mono s2f (fun _ h => h) fun _ _ _ e => e
  replace pf1 := Paired.mapP pf1 fun _ _ z => z.mono (s12.trans s2f) hA2 fun _ _ _ e => sh2 _ _ e
  replace e1 := s2f _ _ (s12 _ _ e1)
  have s02 := s01.trans (s12.trans s2f)
  generalize upd Hg2 D2 (.lst zs) = Hg2 at m2' e1 e2 po2 pf1 s02
  have s0 : Same H H2 := s02.trans m2'.sf
  wtm_at "gs"
  refine w_rev (j := 0) (k := 0) rfl (ha.same s0) rfl (h0.same s0) fun p0 H3 np0 s3 hp0 => ?_
  wtm_at "gs"
  have s03 := s0.trans s3
  refine w_rev (j := 0) (k := 2) rfl (ha.same s03) rfl (h2.same s03) fun p2 H4 np2 s4 hp2 => ?_
  wtm_at "gs"
  have s04 := s03.trans s4
  refine w_rev (j := 0) (k := 3) rfl (ha.same s04) rfl (h3.same s04) fun p3 H5 np3 s5 hp3 => ?_
  wtm_at "gs"
  refine newL (by simp) fun r H6 nr s6 hr => ?_
  wtm_at "gs"
  have s26 := s3.trans (s4.trans (s5.trans s6))
  refine ⟨.ref r, mirP true N, n, B, rfl, ?_, mir_v VN, by omega, by omega, fun H7 y N' s7 hy hNum => q H7 y (mirP true N) N' (s0.trans (s26.trans s7)) (mir_v VN) hy hNum⟩
  refine ⟨r, _, _, _, _, _, rfl, .l hr, ⟨p0, rfl, .l (s6 _ _ (s5 _ _ (s4 _ _ hp0)))⟩, ⟨D1, ys, rfl, .l (s26 _ _ (m2'.sf _ _ e1)), Paired.mapP pf1 fun _ _ z => ((z.rf m2'.sf).mono sl_sq).mono (sq_m s26)⟩, ⟨p2, rfl, .l (s6 _ _ (s5 _ _ hp2))⟩, ⟨p3, rfl, .l (s6 _ _ hp3)⟩, ⟨D2, zs, rfl, .l (s26 _ _ (m2'.sf _ _ e2)), Paired.mapP po2 fun _ _ z => ((z.ro m2'.sf).mono sl_sq).mono (sq_m s26)⟩⟩
/-! the picture and the parts are alike -/
def dI (ws : List Int) : PyData := .tuple (ws.map .int)
def dF (f : Frm) : PyData := .tuple [.str f.name.1, .int f.place, dI f.slots, dI f.stack]
def dO (o : Nm × List Int) : PyData := .tuple [.str o.1.1, dI o.2]
theorem dp_ints {K : PySem.W.Frag} {H : Hp} : ∀ ws : List Int, DpAll K H (iv ws) (ws.map .int)
  | [] => .nil
  | w :: ws => .cons (.int w) (dp_ints ws)
theorem dp_I {K : PySem.W.Frag} {H : Hp} {v : V} {ws : List Int} (h : RI (ST K H) v ws) : Dp K H v (dI ws) := by
  obtain ⟨a, rfl, h⟩ := h
  exact .tup h (dp_ints ws)
theorem dp_F {K : PySem.W.Frag} {H : Hp} {v : V} {f : Frm} (h : RF (ST K H) v f) : Dp K H v (dF f) := by
  obtain ⟨a, x, y, rfl, h, h1, h2⟩ := h
  exact .tup h (.cons (.str _) (.cons (.int _) (.cons (dp_I h1) (.cons (dp_I h2) .nil))))
theorem dp_O {K : PySem.W.Frag} {H : Hp} {v : V} {f : Nm × List Int} (h : RO (ST K H) v f) : Dp K H v (dO f) := by
  obtain ⟨a, x, rfl, h, h1⟩ := h
  exact .tup h (.cons (.str _) (.cons (dp_I h1) .nil))
theorem dp_all {α : Type} {K : PySem.W.Frag} {H : Hp} {F : V → α → Prop} {d : α → PyData} (hF : ∀ v x, F v x → Dp K H v (d x)) : ∀ {vs : List V} {xs : List α}, Paired F vs xs → DpAll K H vs (xs.map d)
  | _, _, .nil => .nil
  | _, _, .cons r t => .cons (hF _ _ r) (dp_all hF t)
theorem dp_Fs {K : PySem.W.Frag} {H : Hp} {v : V} {fs : List Frm} (h : RFs (ST K H) v fs) : Dp K H v (.tuple (fs.map dF)) := by
  obtain ⟨a, xs, rfl, h, p⟩ := h
  exact .tup h (dp_all (fun _ _ z => dp_F z) p)
theorem dp_Os {K : PySem.W.Frag} {H : Hp} {v : V} {fs : List (Nm × List Int)} (h : ROs (ST K H) v fs) : Dp K H v (.tuple (fs.map dO)) := by
  obtain ⟨a, xs, rfl, h, p⟩ := h
  exact .tup h (dp_all (fun _ _ z => dp_O z) p)
theorem lay_all {α : Type} {d : α → PyData} (h : ∀ x, (d x).canLay0 = true) : ∀ xs : List α, PyData.canLayAll0 (xs.map d) = true
  | [] => rfl
  | x :: xs => by
    show (_ && _) = true
    rw [h x, lay_all h xs]
    rfl
theorem dep_all {α : Type} {d : α → PyData} {n : Nat} (h : ∀ x, (d x).depth ≤ n) : ∀ xs : List α, PyData.depthAll (xs.map d) ≤ n
  | [] => Nat.zero_le _
  | x :: xs => by
    show max _ _ ≤ n
    have := h x
    have := dep_all h xs
    omega
theorem I_lay (ws : List Int) : (dI ws).canLay0 = true := lay_all (fun _ => rfl) ws
theorem I_dep (ws : List Int) : (dI ws).depth ≤ 2 := by
  have := dep_all (d := PyData.int) (n := 1) (fun _ => Nat.zero_le _) ws
  show PyData.depthAll _ + 1 ≤ 2
  omega
theorem F_lay (f : Frm) : (dF f).canLay0 = true := by
  show (PyData.strOk f.name.1 && (true && ((dI f.slots).canLay0 && ((dI f.stack).canLay0 && true)))) = true
  rw [I_lay, I_lay, f.name.2]
  rfl
theorem F_dep (f : Frm) : (dF f).depth ≤ 3 := by
  have := I_dep f.slots
  have := I_dep f.stack
  show max 0 (max 0 (max (dI f.slots).depth (max (dI f.stack).depth 0))) + 1 ≤ 3
  omega
theorem O_lay (f : Nm × List Int) : (dO f).canLay0 = true := by
  show (PyData.strOk f.1.1 && ((dI f.2).canLay0 && true)) = true
  rw [I_lay, f.1.2]
  rfl
theorem O_dep (f : Nm × List Int) : (dO f).depth ≤ 3 := by
  have := I_dep f.2
  show max 0 (max (dI f.2).depth 0) + 1 ≤ 3
  omega
theorem w_eqD {K : PySem.W.Frag} {H : Hp} {Q : VK} {x y : V} {d : PyData} (hx : Dp K H x d) (hy : Dp K H y d) (hc : d.canLay0 = true) (hd : d.depth ≤ 64) (q : Q (.bl true) H) : rEqD K x y H Q := by
  have hs : SeqAt.shaped d = true := by
    unfold SeqAt.shaped
    rw [hc, decide_eq_true hd]
    rfl
  refine ⟨d, d, hx, hy, hs, hs, ?_⟩
  rw [SeqAt.eqv_refl d hc]
  exact q
theorem len__law_stays (K : PySem.W.Frag) (vs : List V) (H : Hp) (Q : VK) (E : XK) (h : sp__law_stays K vs H Q E) : vs.length = (["_law_picture", "_law_parts"] : List Str).length := by
  obtain ⟨p, x, N, rfl, _⟩ := h
  rfl
theorem pure__law_stays (K : PySem.W.Frag) (vs : List V) (H : Hp) (Q : VK) (E : XK) (h : sp__law_stays K vs H Q E) : t__law_stays K { nx := fun _ H' => Q .non H', rt := Q } (start ["_law_picture", "_law_parts"] vs) H := by
  obtain ⟨p, x, N, rfl, hp, ⟨a, x0, x1, x2, x3, x4, rfl, ha, h0, h1, h2, h3, h4⟩, q⟩ := h
  unfold t__law_stays
  wtm_at "gs"
  apply pic0 hp
  intro y hy
  wtm_at "gs"
  refine w_ixn (k := 0) (.l ha) rfl ?_
  refine w_eqD (dp_I hy) (dp_I h0) (I_lay _) (Nat.le_trans (I_dep _) (by decide)) ?_
  wtm_at "gs"
  apply pic1 hp
  intro y hy
  wtm_at "gs"
  refine w_ixn (k := 1) (.l ha) rfl ?_
  refine w_eqD (dp_Fs hy) (dp_Fs h1) (lay_all F_lay _) (Nat.le_trans (Nat.succ_le_succ (dep_all F_dep _)) (by decide)) ?_
  wtm_at "gs"
  apply pic2 hp
  intro y hy
  wtm_at "gs"
  refine w_ixn (k := 2) (.l ha) rfl ?_
  refine w_eqD (dp_I hy) (dp_I h2) (I_lay _) (Nat.le_trans (I_dep _) (by decide)) ?_
  wtm_at "gs"
  apply pic3 hp
  intro y hy
  wtm_at "gs"
  refine w_ixn (k := 3) (.l ha) rfl ?_
  refine w_eqD (dp_I hy) (dp_I h3) (I_lay _) (Nat.le_trans (I_dep _) (by decide)) ?_
  wtm_at "gs"
  apply pic4 hp
  intro y hy
  wtm_at "gs"
  refine w_ixn (k := 4) (.l ha) rfl ?_
  refine w_eqD (dp_Os hy) (dp_Os h4) (lay_all O_lay _) (Nat.le_trans (Nat.succ_le_succ (dep_all O_dep _)) (by decide)) ?_
  exact q
/-! ### .. a picture made from parts -/
theorem len__law_made (K : PySem.W.Frag) (vs : List V) (H : Hp) (Q : VK) (E : XK) (h : sp__law_made K vs H Q E) : vs.length = (["_law_parts", "_law_lists"] : List Str).length := by
  obtain ⟨x, N, b, n, B, pf, rfl, _⟩ := h
  rfl
/-- a picture is made -/
theorem make_pic {K : PySem.W.Frag} {H : Hp} {R : Addr → Hp → Prop} {x0 x1 x2 x3 x4 : V} {P : Pic} (pf : PFacts K (PC K)) (h0 : RI (SQ K H) x0 P.statics) (h1 : RFs (SQ K H) x1 P.frames) (h2 : RI (SQ K H) x2 P.watched) (h3 : RI (SQ K H) x3 P.parted) (h4 : ROs (SQ K H) x4 P.objs) (lf : P.frames.length ≤ 100000) (lo : P.objs.length ≤ 100000)
    (q : ∀ p H', Same H H' → H p = none → PicT K (PC K) H' p P → R p H') : ∀ x dx, H x = none → H dx = none → dx ≠ x → sp_Picture___init__ K (.ref x :: ([x0, x1, x2, x3, x4] ++ [])) (upd (upd H dx (.own x)) x (.ins (PC K) dx [])) (fun v H2 => v = .non ∧ R x H2) E0 := by
  intro x dx nx nd ne
  have n2 : (upd H dx (.own x)) x = none := by
    rw [upd_ne ne.symm]
    exact nx
  have s : Same H (upd (upd H dx (.own x)) x (.ins (PC K) dx [])) := (same_new nd).trans (same_new n2)
  exact ⟨x, dx, x0, x1, x2, x3, x4, P, 0, 0, pf, rfl, upd_same, h0.mono (sq_m s), h1.mono (sq_m s), h2.mono (sq_m s), h3.mono (sq_m s), h4.mono (sq_m s), lf, lo, fun H' k hp => ⟨rfl, q x H' (fun b o e => k b o (ne_of_none e nx) (s _ _ e)) nx hp⟩⟩
section
variable {K : PySem.W.Frag} {Hf H : Hp} {A : List Addr} {n B : Nat} {a : Addr} {xs : List V} {σ : L2.St} {j : Nat} {Q : VK}
/-- the rows of some things -/
theorem pick_rows {i : Int} (ha : Hf a = some (.lst xs)) (M : Mt Hf H A n B) (hx : ∀ x ∈ xs, ∃ (b : Addr) (zs : List V) (k : Nat), x = .ref b ∧ Hf b = some (.lst zs) ∧ i = (k : Int) ∧ ∃ l ∈ A, zs[k]? = some (.ref l)) (hl : xs.length ≤ 100000)
    (hσ : ∀ v : V, ((wipe σ [j]).set j (some v))[j]? = some (some v)) (hw : ∀ v : V, wipe ((wipe σ [j]).set j (some v)) [j] = wipe σ [j])
    (q : ∀ D H' ys, Same H H' → H D = none → H' D = some (.lst ys) → ys.length ≤ 100000 → (∀ y ∈ ys, ∃ l ∈ A, y = .ref l) → Q (.ref D) H') :
    rSeqIt K (LcK (gName j) tYes (tOp (rIx K) (tVar j) (tC (.int i))) [j] σ Q) (.ref a) H := by
  refine l_seq0 (.l ha) M.sf (fun D i H' => Same H H' ∧ ∃ ys, H' D = some (.lst ys) ∧ ys.length = i ∧ ∀ y ∈ ys, ∃ l ∈ A, y = .ref l) (fun D nD => ⟨same_new nD, [], upd_same, rfl, fun _ h => (by cases h)⟩) (fun D i H' nD ⟨s, _⟩ => M.sf.trans s) ?_ ?_
  · rintro D i x H' nD hx1 ⟨s, ys, hD, hl1, hy⟩
    obtain ⟨b, zs, k, rfl, hb, rfl, l, hlA, hk⟩ := hx x (List.mem_of_getElem? hx1)
    have hi := (List.getElem?_eq_some_iff.mp hx1).1
    wtm_at "gs"
    refine ⟨hw _, ?_⟩
    wtm_at "gs"
    refine w_var (hσ _) ?_
    wtm_at "gs"
    refine w_ixn (.l (s _ _ (M.sf _ _ hb))) hk ?_
    refine kept hD (by omega) ⟨same_mut s nD, _, upd_same, by rw [List.length_append, hl1]; rfl, mem_snoc hy ⟨l, hlA, rfl⟩⟩
  · rintro D H' nD ⟨s, ys, hD, hl1, hy⟩
    exact q D H' ys s nD hD (by omega) hy
end
theorem val1 {n : Nat} {w : Int} (h : Val n w) : Val (n + 1) w := h.mono (by omega)
theorem pure__law_made (K : PySem.W.Frag) (vs : List V) (H : Hp) (Q : VK) (E : XK) (h : sp__law_made K vs H Q E) : t__law_made K { nx := fun _ H' => Q .non H', rt := Q } (start ["_law_parts", "_law_lists", "_law_rows", "_law_frames", "_law_objects", "_law_picture", "_law_words_here", "_law_frame", "_law_one"] vs) H := by
  obtain ⟨x, N, bb, n, B, pf, rfl, hN, VN, hn, hB, q⟩ := h
  obtain ⟨v0, vf, v2, v3, vo⟩ := pic_rows_v VN
  have lf : N.frames.length ≤ 100000 := Nat.le_trans VN.frs (by omega)
  have lo : N.objs.length ≤ 100000 := by
    rw [VN.cnt]
    omega
  obtain ⟨a, x0, x1, x2, x3, x4, rfl, ha, h0, h1, h2, h3, h4⟩ := hN.any
  unfold t__law_made
  wtm_at "gs"
  cases bb with
  | false =>
    refine iteT ?_
    wtm_at "gs"
    refine w_ixn (k := 0) ha rfl ?_
    wtm_at "gs"
    refine w_ixn (k := 1) ha rfl ?_
    wtm_at "gs"
    refine w_ixn (k := 2) ha rfl ?_
    wtm_at "gs"
    refine w_ixn (k := 3) ha rfl ?_
    wtm_at "gs"
    refine w_ixn (k := 4) ha rfl ?_
    wtm_at "gs"
    exact make_pic pf h0 h1 h2 h3 h4 lf lo fun p H' s np hp => q H' p s hp
  | true =>
    refine iteF ?_
    obtain ⟨a0, rfl, h0⟩ := h0
    obtain ⟨a1, fs, rfl, h1, pf1⟩ := h1
    obtain ⟨a2, rfl, h2⟩ := h2
    obtain ⟨a3, rfl, h3⟩ := h3
    obtain ⟨a4, os, rfl, h4, po⟩ := h4
    wtm_at "gs"
    refine w_ixn (k := 0) ha rfl ?_
    wtm_at "gs"
    refine w_list h0 fun p0 H1 np0 s1 hp0 => ?_
    have m1 := (mt_nil H (n + 1) B).add s1 np0 hp0 (fun w hw => val1 (v0.1 w hw)) v0.2
    wtm_at "gs"
    refine w_ixn (k := 2) (ha.same s1) rfl ?_
    wtm_at "gs"
    refine w_list (h2.same s1) fun p2 H2 np2 s2 hp2 => ?_
    have m2 := m1.add s2 np2 hp2 (fun w hw => val1 (v2.1 w hw)) v2.2
    wtm_at "gs"
    refine w_ixn (k := 3) (ha.same (s1.trans s2)) rfl ?_
    wtm_at "gs"
    refine w_list (h3.same (s1.trans s2)) fun p3 H3 np3 s3 hp3 => ?_
    have m3 := m2.add s3 np3 hp3 (fun w hw => val1 (v3.1 w hw)) v3.2
    wtm_at "gs"
    refine newL (by simp) fun R H4 nR s4 hR => ?_
    have m4 := m3.grow s4 nR hR
    have sHf : Same H (upd H R (.lst [.ref p0, .ref p2, .ref p3])) := same_new (m3.sf.free nR)
    have hRf : (upd H R (.lst [.ref p0, .ref p2, .ref p3])) R = some (.lst [.ref p0, .ref p2, .ref p3]) := upd_same
    replace hp0 := s4 _ _ (s3 _ _ (s2 _ _ hp0))
    replace hp2 := s4 _ _ (s3 _ _ hp2)
    replace hp3 := s4 _ _ hp3
    have i0 : p0 ∈ p3 :: p2 :: p0 :: ([] : List Addr) := List.mem_cons_of_mem _ (List.mem_cons_of_mem _ List.mem_cons_self)
    have i2 : p2 ∈ p3 :: p2 :: p0 :: ([] : List Addr) := List.mem_cons_of_mem _ List.mem_cons_self
    have i3 : p3 ∈ p3 :: p2 :: p0 :: ([] : List Addr) := List.mem_cons_self
    generalize upd H R (.lst [.ref p0, .ref p2, .ref p3]) = Hf at m4 sHf hRf
    generalize p3 :: p2 :: p0 :: ([] : List Addr) = A at m4 i0 i2 i3
    wtm_at "gs"
    refine w_ixn (k := 1) (ha.same (sHf.trans m4.sf)) rfl ?_
    refine cp_frames (rev := false) (j := 7) sHf h1 pf1 m4 (fun f hf => ⟨⟨fun w hw => val1 ((vf f hf).1.1 w hw), (vf f hf).1.2⟩, fun w hw => val1 ((vf f hf).2.1 w hw), (vf f hf).2.2⟩) lf (fun _ => rfl) (fun _ => rfl) fun D1 H5 Hg1 A1 ys s01 sh1 nD1 hA1 m5 b1 pf5 => ?_
    have nD1H : H D1 = none := (sHf.trans m4.sf).free nD1
    have m5' := m5.freeze b1.at_ b1.na
    have s1f : Same Hg1 (upd Hg1 D1 (.lst ys)) := same_new b1.no
    have e1 : (upd Hg1 D1 (.lst ys)) D1 = some (.lst ys) := upd_same
    replace pf5 := Paired.mapP pf5 fun _ _ z => z.mono s1f (fun _ h => h) fun _ _ _ e => e
    replace s01 := s01.trans s1f
    generalize upd Hg1 D1 (.lst ys) = Hg1 at m5' e1 pf5 s01
    have s0g := sHf.trans s01
    wtm_at "gs"
    refine w_ixn (k := 4) (ha.same (s0g.trans m5'.sf)) rfl ?_
    refine cp_objs (rev := false) (j := 8) s0g h4 po m5' (fun o ho => ⟨fun w hw => val1 ((vo o ho).1 w hw), (vo o ho).2⟩) lo (fun _ => rfl) (fun _ => rfl) fun D2 H6 Hg2 A2 zs s12 sh2 nD2 hA2 m6 b2 po6 => ?_
    have nD2H : H D2 = none := (s0g.trans m5'.sf).free nD2
    have nD12 : D1 ≠ D2 := ne_of_none (m5'.sf _ _ e1) nD2
    have m6' := m6.freeze b2.at_ b2.na
    have s2f : Same Hg2 (upd Hg2 D2 (.lst zs)) := same_new b2.no
    have e2 : (upd Hg2 D2 (.lst zs)) D2 = some (.lst zs) := upd_same
    replace po6 := Paired.mapP po6 fun _ _ z => z.mono s2f (fun _ h => h) fun _ _ _ e => e
    replace pf5 := Paired.mapP pf5 fun _ _ z => z.mono (s12.trans s2f) hA2 fun _ _ _ e => sh2 _ _ e
    replace e1 := s2f _ _ (s12 _ _ e1)
    have hRf2 := s2f _ _ (s12 _ _ (s01 _ _ hRf))
    have s02 := s0g.trans (s12.trans s2f)
    generalize upd Hg2 D2 (.lst zs) = Hg2 at m6' e1 e2 po6 pf5 s02 hRf2
    have s46 := sh1.trans sh2
    replace hp0 := s46 _ _ hp0
    replace hp2 := s46 _ _ hp2
    replace hp3 := s46 _ _ hp3
    wtm_at "gs"
    refine w_ixn (k := 0) (.l (m6'.sf _ _ hRf2)) rfl ?_
    wtm_at "gs"
    refine w_ixn (k := 1) (.l (m6'.sf _ _ hRf2)) rfl ?_
    wtm_at "gs"
    refine w_ixn (k := 2) (.l (m6'.sf _ _ hRf2)) rfl ?_
    wtm_at "gs"
    have eP := mir_f N
    have ef : N.frames.map (mirF false) = N.frames := congrArg Pic.frames eP
    have eo : N.objs.map (mirO false) = N.objs := congrArg Pic.objs eP
    rw [ef] at pf5
    rw [eo] at po6
    refine make_pic (P := N) pf ⟨p0, rfl, .l hp0⟩ ⟨D1, ys, rfl, .l (m6'.sf _ _ e1), Paired.mapP pf5 fun _ _ z => (z.rf m6'.sf).mono sl_sq⟩ ⟨p2, rfl, .l hp2⟩ ⟨p3, rfl, .l hp3⟩ ⟨D2, zs, rfl, .l (m6'.sf _ _ e2), Paired.mapP po6 fun _ _ z => (z.ro m6'.sf).mono sl_sq⟩ lf lo fun p H7 s7 np hp => ?_
    have m7 := m6'.same s7
    wtm_at "gs"
    have lys : ys.length ≤ 100000 := by rw [pf5.length]; exact lf
    have lzs : zs.length ≤ 100000 := by rw [po6.length]; exact lo
    refine pick_rows (i := 1) (j := 8) e2 m7 (fun y hy => ?_) lzs (fun _ => rfl) (fun _ => rfl) fun D3 H8 us s8 nD3 hD3 lus hus => ?_
    · obtain ⟨o, ho, z⟩ := pmem po6 hy
      obtain ⟨a, b, e, k1, k2, k3⟩ := z
      exact ⟨a, _, 1, e, k1, rfl, b, k2, rfl⟩
    refine w_cat ((s7.trans s8) _ _ (m6'.sf _ _ hRf2)) hD3 ?_ fun D4 H9 nD4 s9 hD4 => ?_
    · show 3 + us.length ≤ _
      omega
    have m9 := m7.same (s8.trans s9)
    wtm_at "gs"
    refine pick_rows (i := 2) (j := 7) e1 m9 (fun y hy => ?_) lys (fun _ => rfl) (fun _ => rfl) fun D5 H10 ws s10 nD5 hD5 lws hws => ?_
    · obtain ⟨f, hf, z⟩ := pmem pf5 hy
      obtain ⟨a, b, c, e, k1, k2, k3, k4⟩ := z
      exact ⟨a, _, 2, e, k1, rfl, b, k2, rfl⟩
    refine w_cat (s10 _ _ hD4) hD5 ?_ fun T H11 nT s11 hT => ?_
    · rw [List.length_append]
      show 3 + us.length + ws.length ≤ _
      omega
    have m11 := (m9.same s10).grow s11 nT hT
    have sT : Same Hg2 (upd Hg2 T (.lst (([.ref p0, .ref p2, .ref p3] ++ us) ++ ws))) := same_new ((m9.same s10).sf.free nT)
    have hTf : (upd Hg2 T (.lst (([.ref p0, .ref p2, .ref p3] ++ us) ++ ws))) T = some (.lst (([.ref p0, .ref p2, .ref p3] ++ us) ++ ws)) := upd_same
    replace e1 := sT _ _ e1
    replace e2 := sT _ _ e2
    replace s02 := s02.trans sT
    generalize upd Hg2 T (.lst (([.ref p0, .ref p2, .ref p3] ++ us) ++ ws)) = Hh at m11 hTf e1 e2 s02
    have hmem : ∀ y ∈ ([V.ref p0, .ref p2, .ref p3] ++ us) ++ ws, ∃ l ∈ A2, y = .ref l := fun y hy => by
      rcases List.mem_append.mp hy with hy | hy
      · rcases List.mem_append.mp hy with hy | hy
        · rcases List.mem_cons.mp hy with z | hy
          · exact ⟨p0, hA2 _ (hA1 _ i0), z⟩
          · rcases List.mem_cons.mp hy with z | hy
            · exact ⟨p2, hA2 _ (hA1 _ i2), z⟩
            · exact ⟨p3, hA2 _ (hA1 _ i3), List.mem_singleton.mp hy⟩
        · exact hus y hy
      · exact hws y hy
    have llen : (([V.ref p0, .ref p2, .ref p3] ++ us) ++ ws).length ≤ 300000 := by
      rw [List.length_append, List.length_append]
      show 3 + us.length + ws.length ≤ _
      omega
    generalize ([V.ref p0, .ref p2, .ref p3] ++ us) ++ ws = ts at hT hTf hmem llen
    have hp11 := PicT.same (s8.trans (s9.trans (s10.trans s11))) hp
    refine f_seq0 (.l hTf) (fun i σ' H' => ∃ y, σ' = [some (.ref a), some (.bl true), some (.ref R), some (.ref D1), some (.ref D2), some (.ref p), y, none, none] ∧ Mt Hh H' A2 (n + 1) (B + i) ∧ PicT K (PC K) H' p N) ⟨none, rfl, m11, hp11⟩ (fun i σ' H' ⟨_, _, m, _⟩ => m.sf) ?_ ?_
    · rintro i z σ' H' hz ⟨y, rfl, m, hpic⟩
      obtain ⟨l, hl, rfl⟩ := hmem z (List.mem_of_getElem? hz)
      have hi := (List.getElem?_eq_some_iff.mp hz).1
      obtain ⟨vs, ev, hv, hb⟩ := m.ok l hl
      wtm_at "gs"
      refine ⟨tyL ev, ?_⟩
      wtm_at "gs"
      refine w_insert ev (by rw [iv_len]; omega) (by decide) (by decide) ?_
      exact ⟨_, rfl, m.ins hl ev hv hb (.inr (.inr ⟨0, by omega, rfl⟩)) _, hpic.upd ev⟩
    · rintro σ' H' ⟨y, rfl, m, hpic⟩
      wtm_at "gs"
      refine ⟨tyL (m.sf _ _ e1), ?_⟩
      wtm_at "gs"
      refine newL (by simp) fun t1 G1 _ g1 _ => ?_
      wtm_at "gs"
      refine newL (by simp) fun t2 G2 _ g2 _ => ?_
      wtm_at "gs"
      refine newL (by simp) fun t3 G3 _ g3 _ => ?_
      wtm_at "gs"
      have g13 := g1.trans (g2.trans g3)
      refine w_append (g13 _ _ (m.sf _ _ e1)) (by omega) ?_
      have hpic2 := (hpic.same g13).upd (ys := ys ++ [.ref t3]) (g13 _ _ (m.sf _ _ e1))
      have hs2 : Same H (upd G3 D1 (.lst (ys ++ [.ref t3]))) := same_mut (s02.trans (m.sf.trans g13)) nD1H
      have e2' : (upd G3 D1 (.lst (ys ++ [.ref t3]))) D2 = some (.lst zs) := get_ne (g13 _ _ (m.sf _ _ e2)) nD12.symm
      generalize upd G3 D1 (.lst (ys ++ [.ref t3])) = G4 at hpic2 hs2 e2'
      wtm_at "gs"
      refine ⟨tyL e2', ?_⟩
      wtm_at "gs"
      refine newL (by simp) fun t4 G5 _ g5 _ => ?_
      wtm_at "gs"
      refine newL (by simp) fun t5 G6 _ g6 _ => ?_
      wtm_at "gs"
      have g56 := g5.trans g6
      refine w_append (g56 _ _ e2') (by omega) ?_
      wtm_at "gs"
      exact q _ p (same_mut (hs2.trans g56) nD2H) ((hpic2.same g56).upd (g56 _ _ e2'))
/-! ### who is reached, who keeps whom: the mathematics -/
/-- reached from the rows, never through what is barred -/
inductive Rch (bar : Int → Bool) (rows objs : List (List Int)) : Int → Prop
  | root {ws : List Int} {k : Int} : ws ∈ rows → k ∈ refs ws → bar k = false → Rch bar rows objs k
  | step {j k : Int} : Rch bar rows objs j → k ∈ refs (payload objs j) → bar k = false → Rch bar rows objs k
theorem heldN_rch {bar : Int → Bool} {rows objs : List (List Int)} : ∀ k, ∀ x ∈ heldN bar rows objs k, Rch bar rows objs x
  | 0, x, h => by
    obtain ⟨⟨ws, h1, h2⟩, h3⟩ := held0_mem.mp h
    exact .root h1 h2 h3
  | k + 1, x, h => by
    have h : x ∈ heldS bar objs (heldN bar rows objs k) k := h
    cases e : (heldN bar rows objs k)[k]? with
    | none =>
      rw [heldS_none e] at h
      exact heldN_rch k x h
    | some j =>
      rw [heldS_some e] at h
      rcases meetN_mem.mp h with h | ⟨h, h2⟩
      · exact heldN_rch k x h
      · exact .step (heldN_rch k j (List.mem_of_getElem? e)) h h2
theorem Held.iff {bar : Int → Bool} {rows objs : List (List Int)} {L : List Int} (h : Held bar rows objs L) {x : Int} : x ∈ L ↔ Rch bar rows objs x := by
  constructor
  · intro hx
    rw [h] at hx
    exact heldN_rch _ x hx
  · intro hx
    induction hx with
    | root h1 h2 h3 => exact h.rows_in h1 h2 h3
    | step _ h2 h3 ih => exact h.pays_in ih h2 h3
section
variable {rows objs : List (List Int)} {a b x : Int}
theorem Rch.nb {bar : Int → Bool} (h : Rch bar rows objs x) : bar x = false := by
  cases h <;> assumption
theorem bar_ne (h : bar1 a x = false) : x ≠ a := of_decide_eq_false h
theorem bar_of (h : x ≠ a) : bar1 a x = false := decide_eq_false h
/-- b lies on each way to x -/
def Dm (rows objs : List (List Int)) (b x : Int) : Prop := x ≠ b ∧ ¬ Rch (bar1 b) rows objs x
theorem Dm.anti (hab : Dm rows objs a b) (hba : Dm rows objs b a) (ha : Rch nobar rows objs a) : False := by
  have key : ∀ y, Rch nobar rows objs y → Rch (bar1 a) rows objs y ∧ Rch (bar1 b) rows objs y := by
    intro y hy
    induction hy with
    | @root ws k h1 h2 _ =>
      have n1 : k ≠ a := fun z => by
        subst z
        exact hba.2 (.root h1 h2 (bar_of hba.1))
      have n2 : k ≠ b := fun z => by
        subst z
        exact hab.2 (.root h1 h2 (bar_of hab.1))
      exact ⟨.root h1 h2 (bar_of n1), .root h1 h2 (bar_of n2)⟩
    | @step j k _ h2 _ ih =>
      have n1 : k ≠ a := fun z => by
        subst z
        exact hba.2 (.step ih.2 h2 (bar_of hba.1))
      have n2 : k ≠ b := fun z => by
        subst z
        exact hab.2 (.step ih.1 h2 (bar_of hab.1))
      exact ⟨.step ih.1 h2 (bar_of n1), .step ih.2 h2 (bar_of n2)⟩
  exact bar_ne (key a ha).1.nb rfl
theorem Dm.trans (hab : Dm rows objs a b) (hbx : Dm rows objs b x) (ha : Rch nobar rows objs a) : Dm rows objs a x := by
  refine ⟨fun z => ?_, fun h => ?_⟩
  · subst z
    exact hab.anti hbx ha
  · have key : ∀ y, Rch (bar1 a) rows objs y → Rch (bar1 b) rows objs y := by
      intro y hy
      induction hy with
      | @root ws k h1 h2 h3 =>
        refine .root h1 h2 (bar_of fun z => ?_)
        subst z
        exact hab.2 (.root h1 h2 h3)
      | @step j k hj h2 h3 ih =>
        refine .step ih h2 (bar_of fun z => ?_)
        subst z
        exact hab.2 (.step hj h2 h3)
    exact hbx.2 (key x h)
theorem Dm.chain (hax : Dm rows objs a x) (hbx : Dm rows objs b x) (ne : a ≠ b) (hx : Rch nobar rows objs x) : Dm rows objs a b ∨ Dm rows objs b a := by
  by_cases h1 : Rch (bar1 a) rows objs b
  · by_cases h2 : Rch (bar1 b) rows objs a
    · exfalso
      have key : ∀ y, Rch nobar rows objs y → Rch (bar1 a) rows objs y ∨ Rch (bar1 b) rows objs y := by
        intro y hy
        induction hy with
        | @root ws k g1 g2 _ =>
          by_cases z : k = a
          · subst z
            exact .inr h2
          · exact .inl (.root g1 g2 (bar_of z))
        | @step j k _ g2 _ ih =>
          rcases ih with ih | ih
          · by_cases z : k = a
            · subst z
              exact .inr h2
            · exact .inl (.step ih g2 (bar_of z))
          · by_cases z : k = b
            · subst z
              exact .inl h1
            · exact .inr (.step ih g2 (bar_of z))
      rcases key x hx with h | h
      · exact hax.2 h
      · exact hbx.2 h
    · exact .inr ⟨ne, h2⟩
  · exact .inl ⟨ne.symm, h1⟩
end
theorem rch_in {bar : Int → Bool} {rows objs : List (List Int)} {n : Nat} (hr : ∀ ws ∈ rows, Vals' n ws) (ho : ∀ ws ∈ objs, Vals' n ws) {x : Int} (h : Rch bar rows objs x) : 0 ≤ x ∧ x < (n : Int) := by
  cases h with
  | root h1 h2 _ =>
    obtain ⟨w, h3, h4⟩ := refs_mem.mp h2
    have := (hr _ h1 w h3).ref h4
    exact ⟨this.1, this.2.1⟩
  | step _ h2 _ =>
    obtain ⟨w, h3, h4⟩ := refs_mem.mp h2
    obtain ⟨ws, h5, h6⟩ := payload_mem h3
    have := (ho ws h5 w h6).ref h4
    exact ⟨this.1, this.2.1⟩
/-- an object's payload emptied: it is barred -/
theorem empty_vals {objs : List (List Int)} {n k : Nat} (ho : ∀ ws ∈ objs, Vals' n ws) : ∀ ws ∈ objs.take k ++ [] :: objs.drop (k + 1), Vals' n ws := by
  intro ws h
  rcases List.mem_append.mp h with h | h
  · exact ho ws (List.mem_of_mem_take h)
  · rcases List.mem_cons.mp h with h | h
    · subst h
      intro w hw
      cases hw
    · exact ho ws (List.mem_of_mem_drop h)
theorem rch_empty {rows objs : List (List Int)} {n k j : Nat} (hr : ∀ ws ∈ rows, Vals' n ws) (ho : ∀ ws ∈ objs, Vals' n ws) (hk : k < objs.length) (ne : j ≠ k) : Rch nobar rows (objs.take k ++ [] :: objs.drop (k + 1)) (j : Int) ↔ Rch (bar1 (k : Int)) rows objs (j : Int) := by
  have pay : ∀ i : Int, 0 ≤ i → i ≠ k → payload (objs.take k ++ [] :: objs.drop (k + 1)) i = payload objs i := by
    intro i h0 hi
    unfold payload
    congr 1
    rcases Nat.lt_or_gt_of_ne (show i.toNat ≠ k by omega) with h | h
    · rw [List.getElem?_append_left (by rw [List.length_take]; omega), List.getElem?_take_of_lt h]
    · rw [List.getElem?_append_right (by rw [List.length_take]; omega), List.length_take, show min k objs.length = k by omega, show i.toNat - k = (i.toNat - k - 1) + 1 by omega, List.getElem?_cons_succ, List.getElem?_drop]
      congr 1
      omega
  have payk : payload (objs.take k ++ [] :: objs.drop (k + 1)) (k : Int) = [] := by
    unfold payload
    rw [List.getElem?_append_right (by rw [List.length_take]; omega), List.length_take, show (k : Int).toNat - min k objs.length = 0 by omega]
    rfl
  constructor
  · intro h
    have key : ∀ y, Rch nobar rows (objs.take k ++ [] :: objs.drop (k + 1)) y → y = k ∨ Rch (bar1 (k : Int)) rows objs y := by
      intro y hy
      induction hy with
      | @root ws y h1 h2 _ =>
        by_cases z : y = k
        · exact .inl z
        · exact .inr (.root h1 h2 (bar_of z))
      | @step i y hi h2 _ ih =>
        by_cases z : y = k
        · exact .inl z
        · rcases ih with ih | ih
          · subst ih
            rw [payk] at h2
            cases h2
          · rw [pay i (rch_in hr ho ih).1 (bar_ne ih.nb)] at h2
            exact .inr (.step ih h2 (bar_of z))
    rcases key _ h with z | z
    · omega
    · exact z
  · intro h
    have key : ∀ y, Rch (bar1 (k : Int)) rows objs y → Rch nobar rows (objs.take k ++ [] :: objs.drop (k + 1)) y := by
      intro y hy
      induction hy with
      | @root ws y h1 h2 _ => exact .root h1 h2 rfl
      | @step i y hi h2 h3 ih => exact .step ih (by rw [pay i (rch_in hr ho hi).1 (bar_ne hi.nb)]; exact h2) rfl
    exact key _ h
/-! what is numbered anew is all reached, and in bounds -/
theorem refOf_turn {n : Nat} {f : Int → Int} {w : Int} (hv : Val n w) (hf : ∀ k, refOf w = some k → 0 ≤ f k) : refOf (turnW f w) = (refOf w).map f := by
  unfold turnW
  by_cases c : 0 < w ∧ w % 2 = 0
  · have e : refOf w = some (w / 2 - 1) := by
      unfold refOf
      rw [if_pos ⟨c.2, by omega⟩]
    have := hf _ e
    rw [if_pos c, e]
    show refOf _ = some _
    unfold refOf
    rw [if_pos ⟨by omega, by omega⟩]
    congr 1
    omega
  · rw [if_neg c]
    cases e : refOf w with
    | none => rfl
    | some k => exact absurd (hv.pos.mpr ⟨k, e⟩) c
theorem refs_turns {n : Nat} {f : Int → Int} (hf : ∀ k, 0 ≤ f k) : ∀ {ws : List Int}, Vals' n ws → refs (turns f ws) = (refs ws).map f
  | [], _ => rfl
  | w :: ws, h => by
    have ih := refs_turns (f := f) hf (ws := ws) fun x hx => h x (List.mem_cons_of_mem _ hx)
    unfold refs turns at ih ⊢
    rw [List.map_cons, List.filterMap_cons, List.filterMap_cons, refOf_turn (h w List.mem_cons_self) fun k _ => hf k, ih]
    cases refOf w <;> rfl
theorem spot_nn (L : List Int) (k : Int) : 0 ≤ spot L k := by
  unfold spot
  omega
theorem spot_lt {L : List Int} {k : Int} (h : k ∈ L) : spot L k < L.length := by
  unfold spot
  have := List.idxOf_lt_length_iff.mpr h
  omega
theorem spot_at {L : List Int} {k : Int} (h : k ∈ L) : L[(spot L k).toNat]? = some k := by
  have hl := List.idxOf_lt_length_iff.mpr h
  unfold spot
  rw [show ((L.idxOf k : Nat) : Int).toNat = L.idxOf k by omega, List.getElem?_eq_getElem hl, List.getElem_idxOf hl]
theorem relabel_rows (P : Pic) (L : List Int) : (relabel P L).rows = P.rows.map (turns (spot L)) := by
  unfold relabel Pic.rows
  simp only [List.map_append, List.map_cons, List.map_nil, List.flatMap_map, List.map_flatMap]
theorem relabel_pays (P : Pic) (L : List Int) : (relabel P L).pays = L.map fun k => turns (spot L) (payload P.pays k) := by
  unfold relabel Pic.pays
  simp only [List.map_map]
  rfl
theorem pay_vals {n : Nat} {objs : List (List Int)} (ho : ∀ ws ∈ objs, Vals' n ws) (k : Int) : Vals' n (payload objs k) := fun w hw => by
  obtain ⟨ws, h1, h2⟩ := payload_mem hw
  exact ho ws h1 w h2
theorem turn_val {n : Nat} {L ws : List Int} (hv : Vals' n ws) (hin : ∀ k ∈ refs ws, k ∈ L) : Vals' L.length (turns (spot L) ws) := by
  intro w hw
  obtain ⟨u, hu, rfl⟩ := List.mem_map.mp hw
  unfold turnW
  by_cases c : 0 < u ∧ u % 2 = 0
  · rw [if_pos c]
    have e : refOf u = some (u / 2 - 1) := by
      unfold refOf
      rw [if_pos ⟨c.2, by omega⟩]
    have := spot_lt (hin _ (refs_mem.mpr ⟨u, hu, e⟩))
    have := spot_nn L (u / 2 - 1)
    exact .inr (.inr ⟨(spot L (u / 2 - 1)).toNat, by omega, by omega⟩)
  · rw [if_neg c]
    rcases hv u hu with h | h | ⟨k, h1, h2⟩
    · exact .inl h
    · exact .inr (.inl h)
    · exact absurd (show 0 < u ∧ u % 2 = 0 by omega) c
theorem pay_len {n B : Nat} {P : Pic} (VP : VPic n B P) (k : Int) : (payload P.pays k).length ≤ B := by
  unfold payload
  cases e : P.pays[k.toNat]? with
  | none => exact Nat.zero_le _
  | some ws => exact (VP.pays ws (List.mem_of_getElem? e)).2
theorem numbered_v {n B : Nat} {P N : Pic} (VP : VPic n B P) (h : Numbered P N) : VPic N.objs.length B N ∧ N.objs.length ≤ n ∧ ∀ k : Nat, k < N.objs.length → Rch nobar N.rows N.pays (k : Int) := by
  obtain ⟨L, hL, rfl⟩ := h
  have hr : ∀ ws ∈ P.rows, Vals' n ws := fun ws h => (VP.rows ws h).1
  have hq : ∀ ws ∈ P.pays, Vals' n ws := fun ws h => (VP.pays ws h).1
  have eo : (relabel P L).objs.length = L.length := List.length_map _
  have er := relabel_rows P L
  have ep := relabel_pays P L
  refine ⟨⟨fun ws h => ?_, fun ws h => ?_, rfl, ?_⟩, ?_, fun k hk => ?_⟩
  · rw [er] at h
    obtain ⟨us, h1, rfl⟩ := List.mem_map.mp h
    rw [eo]
    exact ⟨turn_val (hr us h1) fun k hk => hL.rows_in h1 hk rfl, by
      unfold turns
      rw [List.length_map]
      exact (VP.rows us h1).2⟩
  · rw [ep] at h
    obtain ⟨j, h1, rfl⟩ := List.mem_map.mp h
    rw [eo]
    exact ⟨turn_val (pay_vals hq j) fun k hk => hL.pays_in h1 hk rfl, by
      unfold turns
      rw [List.length_map]
      exact pay_len VP j⟩
  · show (P.frames.map _).length ≤ B
    rw [List.length_map]
    exact VP.frs
  · rw [eo]
    exact hL.small hr hq
  · rw [eo] at hk
    have key : ∀ x, Rch nobar P.rows P.pays x → Rch nobar (relabel P L).rows (relabel P L).pays (spot L x) := by
      intro x hx
      induction hx with
      | @root ws x h1 h2 _ =>
        refine .root (ws := turns (spot L) ws) (by rw [er]; exact List.mem_map.mpr ⟨ws, h1, rfl⟩) ?_ rfl
        rw [refs_turns (spot_nn L) (hr ws h1)]
        exact List.mem_map.mpr ⟨x, h2, rfl⟩
      | @step j x hj h2 _ ih =>
        refine .step ih ?_ rfl
        have hjL : j ∈ L := hL.iff.mpr hj
        have e2 : payload (relabel P L).pays (spot L j) = turns (spot L) (payload P.pays j) := by
          show ((relabel P L).pays[(spot L j).toNat]?).getD [] = _
          rw [ep, List.getElem?_map, spot_at hjL]
          rfl
        rw [e2, refs_turns (spot_nn L) (pay_vals hq j)]
        exact List.mem_map.mpr ⟨x, h2, rfl⟩
    have hm : L[k] ∈ L := List.getElem_mem hk
    have := key _ (hL.iff.mp hm)
    have e3 : spot L L[k] = (k : Int) := by
      unfold spot
      rw [hL.nd.idxOf_getElem k hk]
    rw [e3] at this
    exact this
/-! ### keepers: counting -/
theorem cnt_or {p : Nat → Bool} {k : Nat} : ∀ {l : List Nat}, l.Nodup → k ∈ l → p k = false → l.countP (fun y => p y || decide (y = k)) = l.countP p + 1
  | [], _, h, _ => by cases h
  | y :: l, nd, h, hp => by
    have nd' := List.nodup_cons.mp nd
    by_cases z : y = k
    · subst z
      have e : l.countP (fun w => p w || decide (w = y)) = l.countP p := by
        refine List.countP_congr fun w hw => ?_
        have : w ≠ y := fun q => nd'.1 (q ▸ hw)
        simp [this]
      rw [List.countP_cons, List.countP_cons, e, hp]
      simp
    · have hk : k ∈ l := by
        rcases List.mem_cons.mp h with q | q
        · exact absurd q.symm z
        · exact q
      have ih := cnt_or nd'.2 hk hp
      rw [List.countP_cons, List.countP_cons, ih]
      simp [z]
      omega
theorem cnt_mono {p q : Nat → Bool} {l : List Nat} (h : ∀ y ∈ l, p y = true → q y = true) : l.countP p ≤ l.countP q := List.countP_mono_left h
structure Ord (n : Nat) (dm : Nat → Nat → Bool) : Prop where
  irr : ∀ x, dm x x = false
  tr : ∀ a b x, a < n → b < n → x < n → dm a b = true → dm b x = true → dm a x = true
  ch : ∀ a b x, a < n → b < n → x < n → dm a x = true → dm b x = true → a ≠ b → dm a b = true ∨ dm b a = true
def dset (n : Nat) (dm : Nat → Nat → Bool) (x : Nat) : List Nat := (List.range n).filter fun b => dm b x
def kset (n : Nat) (dm : Nat → Nat → Bool) (b : Nat) : List Nat := (List.range n).filter fun x => dm b x
def dep (n : Nat) (dm : Nat → Nat → Bool) (x : Nat) : Nat := (List.range n).countP fun b => dm b x
section
variable {n : Nat} {dm : Nat → Nat → Bool}
theorem dset_mem {x b : Nat} : b ∈ dset n dm x ↔ b < n ∧ dm b x = true := by
  unfold dset
  rw [List.mem_filter, List.mem_range]
theorem kset_mem {x b : Nat} : x ∈ kset n dm b ↔ x < n ∧ dm b x = true := by
  unfold kset
  rw [List.mem_filter, List.mem_range]
theorem Ord.up (o : Ord n dm) {m x : Nat} (hm : m < n) (hx : x < n) (h : dm m x = true) : dep n dm m + 1 ≤ dep n dm x := by
  unfold dep
  rw [← cnt_or (p := fun b => dm b m) List.nodup_range (List.mem_range.mpr hm) (o.irr m)]
  refine cnt_mono fun y hy e => ?_
  rcases Bool.or_eq_true_iff.mp e with e | e
  · exact o.tr y m x (List.mem_range.mp hy) hm hx e h
  · rw [of_decide_eq_true e]
    exact h
theorem Ord.right (o : Ord n dm) {k x j : Nat} (hk : k < n) (hx : x < n) (h : dm k x = true) (hd : dep n dm x = dep n dm k + 1) (hj : j < n) (hjx : dm j x = true) (ne : j ≠ k) : dm j k = true := by
  cases e : dm j k with
  | true => rfl
  | false =>
    exfalso
    have h1 := cnt_or (p := fun b => dm b k) List.nodup_range (List.mem_range.mpr hk) (o.irr k)
    have h2 := cnt_or (p := fun y => dm y k || decide (y = k)) (k := j) List.nodup_range (List.mem_range.mpr hj) (by simp [e, ne])
    have h3 : (List.range n).countP (fun y => (dm y k || decide (y = k)) || decide (y = j)) ≤ dep n dm x := cnt_mono fun y hy e => by
      rcases Bool.or_eq_true_iff.mp e with e | e
      · rcases Bool.or_eq_true_iff.mp e with e | e
        · exact o.tr y k x (List.mem_range.mp hy) hk hx e h
        · rw [of_decide_eq_true e]
          exact h
      · rw [of_decide_eq_true e]
        exact hjx
    have h4 : dep n dm k = (List.range n).countP fun b => dm b k := rfl
    omega
theorem ex_max (f : Nat → Nat) (p : Nat → Bool) : ∀ n, (∃ m, m < n ∧ p m = true) → ∃ m, m < n ∧ p m = true ∧ ∀ j, j < n → p j = true → f j ≤ f m
  | 0, ⟨m, h, _⟩ => by omega
  | n + 1, ⟨m, h, hm⟩ => by
    by_cases c : ∃ m, m < n ∧ p m = true
    · obtain ⟨m', h1, h2, h3⟩ := ex_max f p n c
      by_cases c2 : p n = true ∧ f m' ≤ f n
      · refine ⟨n, by omega, c2.1, fun j hj hp => ?_⟩
        by_cases z : j = n
        · rw [z]
          exact Nat.le_refl _
        · exact Nat.le_trans (h3 j (by omega) hp) c2.2
      · refine ⟨m', by omega, h2, fun j hj hp => ?_⟩
        by_cases z : j = n
        · subst z
          by_cases q : f m' ≤ f j
          · exact absurd ⟨hp, q⟩ c2
          · omega
        · exact h3 j (by omega) hp
    · have : m = n := by
        by_cases z : m = n
        · exact z
        · exact absurd ⟨m, by omega, hm⟩ c
      subst this
      refine ⟨m, h, hm, fun j hj hp => ?_⟩
      by_cases z : j = m
      · rw [z]
        exact Nat.le_refl _
      · exact absurd ⟨j, by omega, hp⟩ c
theorem Ord.ex (o : Ord n dm) {x b : Nat} (hx : x < n) (hb : b < n) (h : dm b x = true) : ∃ k, k < n ∧ dm k x = true ∧ dep n dm x = dep n dm k + 1 := by
  obtain ⟨m, h1, h2, h3⟩ := ex_max (dep n dm) (fun k => dm k x) n ⟨b, hb, h⟩
  refine ⟨m, h1, h2, Nat.le_antisymm ?_ (o.up h1 hx h2)⟩
  have e := cnt_or (p := fun b => dm b m) List.nodup_range (List.mem_range.mpr h1) (o.irr m)
  have e2 : dep n dm m = (List.range n).countP fun b => dm b m := rfl
  rw [e2, ← e]
  refine cnt_mono fun y hy e => ?_
  have hyn := List.mem_range.mp hy
  by_cases z : y = m
  · simp [z]
  · rcases o.ch y m x hyn h1 hx e h2 z with q | q
    · simp [q]
    · have := o.up h1 hyn q
      have := h3 y hyn e
      omega
end
/-- who keeps whom in a picture -/
noncomputable def dmP (N : Pic) (b x : Nat) : Bool := @decide (Dm N.rows N.pays b x) (Classical.propDecidable _)
theorem dmP_iff {N : Pic} {b x : Nat} : dmP N b x = true ↔ Dm N.rows N.pays b x := by
  unfold dmP
  exact @decide_eq_true_iff _ (Classical.propDecidable _)
theorem ordP {N : Pic} {n : Nat} (h : ∀ k : Nat, k < n → Rch nobar N.rows N.pays (k : Int)) : Ord n (dmP N) :=
  ⟨fun x => by
    cases e : dmP N x x with
    | false => rfl
    | true => exact absurd rfl (dmP_iff.mp e).1, fun a b x ha _ _ h1 h2 => dmP_iff.mpr ((dmP_iff.mp h1).trans (dmP_iff.mp h2) (h a ha)), fun a b x _ _ hx h1 h2 ne => by
    rcases (dmP_iff.mp h1).chain (dmP_iff.mp h2) (by omega) (h x hx) with z | z
    · exact .inl (dmP_iff.mpr z)
    · exact .inr (dmP_iff.mpr z)⟩
/-! ### the keepers' law: promises and readings -/
def icast (l : List Nat) : List Int := l.map fun (x : Nat) => (x : Int)
/-- a list of lists of numbers -/
def KL (H : Hp) (xs : List V) (f : Nat → List Nat) (n : Nat) : Prop := xs.length = n ∧ ∀ b, b < n → ∃ l, xs[b]? = some (.ref l) ∧ H l = some (.lst (iv (icast (f b))))
/-- who is told to keep whom -/
def KeepT (n : Nat) (dm : Nat → Nat → Bool) (ys : List V) : Prop := ys.length = n ∧ ∀ x, x < n → (∃ k : Nat, k < n ∧ ys[x]? = some (.int (k : Int)) ∧ dm k x = true ∧ dep n dm x = dep n dm k + 1) ∨ (ys[x]? = some .non ∧ ∀ k, k < n → dm k x = true → dep n dm x ≠ dep n dm k + 1)
def sp_kept_sets (K : PySem.W.Frag) : Sp := fun vs H Q _ => ∃ (p : Addr) (P : Pic) (n B : Nat), vs = [.ref p] ∧ PicT K (PC K) H p P ∧ VPic n B P ∧ n ≤ 1000 ∧ B ≤ 100000 ∧
  ∀ H' q xs, Same H H' → H q = none → H' q = some (.lst xs) → KL H' xs (kset n (dmP P)) n → Q (.ref q) H'
def sp_keepers (K : PySem.W.Frag) : Sp := fun vs H Q _ => ∃ (p : Addr) (P : Pic) (n B : Nat), vs = [.ref p] ∧ PicT K (PC K) H p P ∧ VPic n B P ∧ n ≤ 1000 ∧ B ≤ 100000 ∧
  ∀ H' q ys, Same H H' → SqT K H' q ys → KeepT n (dmP P) ys → Q (.ref q) H'
def sp__law_kept_by (K : PySem.W.Frag) : Sp := fun vs H Q _ => ∃ (x : V) (N : Pic) (n B : Nat), vs = [x] ∧ RPn K H x N ∧ VPic n B N ∧ n ≤ 1000 ∧ B ≤ 9000 ∧
  ∀ H' q xs, Same H H' → H' q = some (.lst xs) → KL H' xs (dset n (dmP N)) n → Q (.ref q) H'
def sp__law_right (K : PySem.W.Frag) : Sp := fun vs H Q _ => ∃ (t l : Addr) (ys xs : List V) (n : Nat) (dm : Nat → Nat → Bool), vs = [.ref t, .ref l] ∧ SqT K H t ys ∧ KeepT n dm ys ∧ H l = some (.lst xs) ∧ KL H xs (dset n dm) n ∧ Ord n dm ∧ n ≤ 1000 ∧
  ∀ H', Same H H' → Q (.bl true) H'
def sp__law_ladder (K : PySem.W.Frag) : Sp := fun vs H Q _ => ∃ (many : Nat) (turn : Int), vs = [.int (many : Int), .int turn] ∧ 2 ≤ many ∧ many ≤ 200 ∧ 0 ≤ turn ∧ turn < 18 ∧
  ∀ H' y P N, Same H H' → RPn K H' y N → VPic many 8000 P → Numbered P N → Q y H'
def sp_law (K : PySem.W.Frag) : Sp := fun vs H Q _ => ∃ (a : Addr) (ns : List Int), PFacts K (PC K) ∧ vs = [.ref a] ∧ SqL K H a (ns.map V.int) ∧ ∀ H', Same H H' → Q (.bl true) H'
noncomputable def t_kept_sets (K : PySem.W.Frag) : TS :=
  (tSeq (tAsg (tLst tNil) (gName 1))
    (tSeq (tFor (iRng1 (tCons (tCB (rLenQ K) (tCons (tFld K (tVar 0) "objects") tNil)) tNil)) (gName 2) (tSeq (tAsg (tCall (sp_reached_without K) [] E0 (tCons (tVar 0) (tCons (tVar 2) tNil))) (gName 3))
    (tDrop (tBM K "list" rAppend (tVar 1) (tCons (tLc (iRng1 (tCons (tCB (rLenQ K) (tCons (tFld K (tVar 0) "objects") tNil)) tNil)) (gName 4) (tAnd (tTest (tOp rNe (tVar 4) (tVar 2))) (tB (tDNotIn (tVar 4) (tVar 3)))) (tVar 4) [4]) tNil)))))
    (tRet (tVar 1))))
noncomputable def t_keepers (K : PySem.W.Frag) : TS :=
  (tSeq (tAsg (tCall (sp_kept_sets K) [] E0 (tCons (tVar 0) tNil)) (gName 1))
    (tSeq (tAsg (tOp rRep (tLst (tCons (tC (.int 0)) tNil)) (tCB (rLenQ K) (tCons (tVar 1) tNil))) (gName 2))
    (tSeq (tFor (iSeq K (tVar 1)) (gName 3) (tFor (iSeq K (tVar 3)) (gName 4) (tAsg (tOp rAddI (tOp (rIx K) (tVar 2) (tVar 4)) (tC (.int 1))) (gSub (tVar 2) (tVar 4) rSetL))))
    (tSeq (tAsg (tOp rRep (tLst (tCons (tC .non) tNil)) (tCB (rLenQ K) (tCons (tVar 1) tNil))) (gName 5))
    (tSeq (tFor (iRng1 (tCons (tCB (rLenQ K) (tCons (tVar 1) tNil)) tNil)) (gName 6) (tFor (iSeq K (tOp (rIx K) (tVar 1) (tVar 6))) (gName 4) (tIfS (tTest (tOp rEq (tOp (rIx K) (tVar 2) (tVar 6)) (tOp rSubI (tOp (rIx K) (tVar 2) (tVar 4)) (tC (.int 1))))) (tAsg (tVar 6) (gSub (tVar 5) (tVar 4) rSetL)) tNext)))
    (tRet (tCB (rTupQ K) (tCons (tVar 5) tNil))))))))
noncomputable def t__law_ladder (K : PySem.W.Frag) : TS :=
  (tSeq (tAsg (tLst tNil) (gName 2))
    (tSeq (tFor (iRng1 (tCons (tVar 0) tNil)) (gName 3) (tSeq (tAsg (tLc (iSeq K (tLst (tCons (tOp rAddI (tVar 3) (tC (.int 1))) (tCons (tOp rAddI (tVar 3) (tC (.int 2))) tNil)))) (gName 5) (tTest (tOp rLtI (tVar 5) (tVar 0))) (tOp rAddI (tOp rMulI (tC (.int 2)) (tVar 5)) (tC (.int 2))) [5]) (gName 4))
    (tSeq (tIfS (tTest (tOp rEq (tOp rModI (tCB rIntQ (tCons (tOp rAddI (tOp rMulI (tC (.int 5)) (tVar 3)) (tVar 1)) tNil)) (tOp (rIx K) (tLst (tCons (tC (.int 9)) (tCons (tC (.int 61)) tNil))) (tOp rDivI (tCB rIntQ (tCons (tVar 1) tNil)) (tC (.int 9))))) (tC (.int 0)))) (tAsg (tSl (rSlL K) (tVar 4) tNoPart (tPart (tC (.int 1)))) (gName 4)) tNext)
    (tSeq (tIfS (tTest (tOp rEq (tOp rModI (tCB rIntQ (tCons (tVar 1) tNil)) (tC (.int 2))) (tC (.int 1)))) (tDrop (tBM0 K "list" rReverse (tVar 4))) tNext)
    (tDrop (tBM K "list" rAppend (tVar 2) (tCons (tLst (tCons (tC (.str "node")) (tCons (tVar 4) tNil))) tNil)))))))
    (tRet (tCall (sp__law_numbered K) [] E0 (tCons (tLst (tCons (tLst (tCons (tC (.int 2)) (tCons (tC (.int 4)) tNil))) (tCons (tLst tNil) (tCons (tLst tNil) (tCons (tLst tNil) (tCons (tVar 2) tNil)))))) tNil)))))
noncomputable def t__law_kept_by (K : PySem.W.Frag) : TS :=
  (tSeq (tAsg (tCall (sp__law_root_rows K) [] E0 (tCons (tVar 0) tNil)) (gName 1))
    (tSeq (tAsg (tLc (iSeq K (tOp (rIx K) (tVar 0) (tC (.int 4)))) (gName 3) tYes (tLst tNil) [3]) (gName 2))
    (tSeq (tFor (iRng1 (tCons (tCB (rLenQ K) (tCons (tOp (rIx K) (tVar 0) (tC (.int 4))) tNil)) tNil)) (gName 3) (tSeq (tAsg (tCall (sp__law_held K) [] E0 (tCons (tVar 1) (tCons (tOp rCat (tOp rCat (tCB (rLstQ K) (tCons (tSl (rSlA K) (tOp (rIx K) (tVar 0) (tC (.int 4))) tNoPart (tPart (tVar 3))) tNil)) (tLst (tCons (tTup (tCons (tOp (rIx K) (tOp (rIx K) (tOp (rIx K) (tVar 0) (tC (.int 4))) (tVar 3)) (tC (.int 0))) (tCons (tTup tNil) tNil))) tNil))) (tCB (rLstQ K) (tCons (tSl (rSlA K) (tOp (rIx K) (tVar 0) (tC (.int 4))) (tPart (tOp rAddI (tVar 3) (tC (.int 1)))) tNoPart) tNil))) tNil))) (gName 4))
    (tSeq (tAsg tDNewK (gName 5))
    (tSeq (tFor (iSeq K (tVar 4)) (gName 6) (sDPut (tVar 5) (tVar 6) (tC (.bl true))))
    (tFor (iRng1 (tCons (tCB (rLenQ K) (tCons (tOp (rIx K) (tVar 0) (tC (.int 4))) tNil)) tNil)) (gName 6) (tIfS (tAnd (tTest (tOp rNe (tVar 6) (tVar 3))) (tB (tDNotIn (tVar 6) (tVar 5)))) (tDrop (tBM K "list" rAppend (tOp (rIx K) (tVar 2) (tVar 6)) (tCons (tVar 3) tNil))) tNext))))))
    (tRet (tVar 2)))))
noncomputable def t__law_right (K : PySem.W.Frag) : TS :=
  (tSeq (tIfS (tOr (tNot (tB (tCB (rIsi K) (tCons (tVar 0) (tCons (tC (.ty "tuple")) tNil))))) (tTest (tOp rNe (tCB (rLenQ K) (tCons (tVar 0) tNil)) (tCB (rLenQ K) (tCons (tVar 1) tNil))))) (tRet (tC (.bl false))) tNext)
    (tSeq (tFor (iRng1 (tCons (tCB (rLenQ K) (tCons (tVar 1) tNil)) tNil)) (gName 2) (tIfS (tTest (tOp rEq (tCB (rLenQ K) (tCons (tOp (rIx K) (tVar 1) (tVar 2)) tNil)) (tC (.int 0)))) (tIfS (tTest (tOp rNotN (tOp (rIx K) (tVar 0) (tVar 2)) (tC .non))) (tRet (tC (.bl false))) tNext) (tIfS (tOr (tNot (tB (tCall (sp__law_whole K) [] E0 (tCons (tOp (rIx K) (tVar 0) (tVar 2)) tNil)))) (tTest (tOp (rIn K true) (tOp (rIx K) (tVar 0) (tVar 2)) (tOp (rIx K) (tVar 1) (tVar 2))))) (tRet (tC (.bl false))) (tSeq (tAsg (tLc (iSeq K (tOp (rIx K) (tVar 1) (tVar 2))) (gName 4) (tAnd (tTest (tOp rNe (tVar 4) (tOp (rIx K) (tVar 0) (tVar 2)))) (tTest (tOp (rIn K true) (tVar 4) (tOp (rIx K) (tVar 1) (tOp (rIx K) (tVar 0) (tVar 2)))))) (tVar 4) [4]) (gName 3))
    (tIfS (tTest (tOp rGtI (tCB (rLenQ K) (tCons (tVar 3) tNil)) (tC (.int 0)))) (tRet (tC (.bl false))) tNext)))))
    (tRet (tC (.bl true)))))
noncomputable def t_law (K : PySem.W.Frag) : TS :=
  (tSeq (tAsg (tCall (sp__law_drawn K) [] E0 (tCons (tVar 0) (tCons (tC (.int 0)) tNil))) (gName 1))
    (tSeq (tAsg (tCall (sp__law_mirrored K) [] E0 (tCons (tVar 1) tNil)) (gName 2))
    (tSeq (tAsg (tCall (sp__law_digits K) [] E0 (tCons (tCall (sp__law_cell K) [] E0 (tCons (tVar 0) (tCons (tC (.int 40)) tNil))) (tCons (tLst (tCons (tC (.int 2)) (tCons (tC (.int 2)) (tCons (tC (.int 32)) (tCons (tC (.int 100)) (tCons (tC (.int 18)) tNil)))))) tNil))) (gName 3))
    (tSeq (tIfS (tTest (tOp rEq (tOp (rIx K) (tVar 3) (tC (.int 2))) (tC (.int 0)))) (tSeq (tAsg (tCall (sp__law_ladder K) [] E0 (tCons (tOp rAddI (tC (.int 60)) (tOp (rIx K) (tVar 3) (tC (.int 3)))) (tCons (tOp (rIx K) (tVar 3) (tC (.int 4))) tNil))) (gName 4))
    (tIfS (tNot (tB (tCall (sp__law_right K) [] E0 (tCons (tCall (sp_keepers K) [] E0 (tCons (tCall (sp__law_made K) [] E0 (tCons (tVar 4) (tCons (tC (.bl true)) tNil))) tNil)) (tCons (tCall (sp__law_kept_by K) [] E0 (tCons (tVar 4) tNil)) tNil))))) (tRet (tC (.bl false))) tNext)) tNext)
    (tSeq (tAsg (tCall (sp__law_made K) [] E0 (tCons (tVar 1) (tCons (tOp rEq (tOp (rIx K) (tVar 3) (tC (.int 0))) (tC (.int 0))) tNil))) (gName 5))
    (tSeq (tAsg (tCall (sp__law_made K) [] E0 (tCons (tVar 2) (tCons (tOp rEq (tOp (rIx K) (tVar 3) (tC (.int 1))) (tC (.int 0))) tNil))) (gName 6))
    (tSeq (tAsg (tCall (sp__law_kept_by K) [] E0 (tCons (tVar 1) tNil)) (gName 7))
    (tSeq (tAsg (tCall (sp__law_kept_by K) [] E0 (tCons (tVar 2) tNil)) (gName 8))
    (tSeq (tIfS (tOr (tNot (tB (tCall (sp__law_right K) [] E0 (tCons (tCall (sp_keepers K) [] E0 (tCons (tVar 5) tNil)) (tCons (tVar 7) tNil))))) (tNot (tB (tCall (sp__law_right K) [] E0 (tCons (tCallKw (sp_keepers K) (fun zs => match zs with | [a0] => [a0] | _ => zs) 1 E0 (tCons (tVar 6) tNil)) (tCons (tVar 8) tNil)))))) (tRet (tC (.bl false))) tNext)
    (tSeq (tIfS (tNot (tB (tCall (sp__law_right K) [] E0 (tCons (tCall (sp_keepers K) [] E0 (tCons (tVar 5) tNil)) (tCons (tVar 7) tNil))))) (tRet (tC (.bl false))) tNext)
    (tRet (tAndV (tCall (sp__law_stays K) [] E0 (tCons (tVar 5) (tCons (tVar 1) tNil))) (tCall (sp__law_stays K) [] E0 (tCons (tVar 6) (tCons (tVar 2) tNil)))))))))))))))
/-! ### who is kept by whom: the program's own -/
theorem icast_len (l : List Nat) : (icast l).length = l.length := List.length_map _
theorem icast_app (a b : List Nat) : icast (a ++ b) = icast a ++ icast b := List.map_append
theorem icast_get {l : List Nat} {i x : Nat} (h : l[i]? = some x) : (iv (icast l))[i]? = some (.int (x : Int)) := by
  refine iv_get ?_
  unfold icast
  rw [List.getElem?_map, h]
  rfl
theorem icast_at {l : List Nat} {i : Nat} {v : V} (h : (iv (icast l))[i]? = some v) : ∃ x : Nat, l[i]? = some x ∧ v = .int (x : Int) := by
  obtain ⟨w, h1, rfl⟩ := iv_at h
  unfold icast at h1
  rw [List.getElem?_map] at h1
  cases e : l[i]? with
  | none =>
    rw [e] at h1
    cases h1
  | some x =>
    rw [e] at h1
    cases h1
    exact ⟨x, rfl, rfl⟩
theorem filter_range_succ (p : Nat → Bool) (i : Nat) : (List.range (i + 1)).filter p = (List.range i).filter p ++ if p i = true then [i] else [] := by
  rw [List.range_succ, List.filter_append]
  congr 1
  cases e : p i <;> simp [e]
theorem range_filter_len (p : Nat → Bool) (i : Nat) : ((List.range i).filter p).length ≤ i := by
  have := List.length_filter_le p (List.range i)
  rw [List.length_range] at this
  exact this
theorem len_kept_sets (K : PySem.W.Frag) (vs : List V) (H : Hp) (Q : VK) (E : XK) (h : sp_kept_sets K vs H Q E) : vs.length = (["picture"] : List Str).length := by
  obtain ⟨p, P, n, B, rfl, _⟩ := h
  rfl
/-- lists so far -/
structure KLs (H0 H : Hp) (o : Addr) (f : Nat → List Nat) (i : Nat) : Prop where
  s : Same H0 H
  ex : ∃ xs, H o = some (.lst xs) ∧ xs.length = i ∧ ∀ b, b < i → ∃ l, l ≠ o ∧ xs[b]? = some (.ref l) ∧ H l = some (.lst (iv (icast (f b))))
theorem KLs.same {H0 H H' : Hp} {o : Addr} {f : Nat → List Nat} {i : Nat} (h : KLs H0 H o f i) (s : Same H H') : KLs H0 H' o f i := by
  obtain ⟨xs, e, hl, hx⟩ := h.ex
  exact ⟨h.s.trans s, xs, s _ _ e, hl, fun b hb => by
    obtain ⟨l, n, e1, e2⟩ := hx b hb
    exact ⟨l, n, e1, s _ _ e2⟩⟩
theorem KLs.push {H0 H : Hp} {o l : Addr} {f : Nat → List Nat} {i : Nat} {xs : List V} (h : KLs H0 H o f i) (no : H0 o = none) (e : H o = some (.lst xs)) (n : l ≠ o) (el : H l = some (.lst (iv (icast (f i))))) : KLs H0 (upd H o (.lst (xs ++ [.ref l]))) o f (i + 1) := by
  obtain ⟨xs', e', hl, hx⟩ := h.ex
  rw [e] at e'
  cases e'
  refine ⟨same_mut h.s no, _, upd_same, by rw [List.length_append, hl]; rfl, fun b hb => ?_⟩
  by_cases z : b = i
  · subst z
    exact ⟨l, n, by rw [List.getElem?_append_right (by omega), hl]; simp, get_ne el n⟩
  · obtain ⟨l', n', e1, e2⟩ := hx b (by omega)
    exact ⟨l', n', by rw [List.getElem?_append_left (by omega)]; exact e1, get_ne e2 n'⟩
theorem pure_kept_sets (K : PySem.W.Frag) (vs : List V) (H : Hp) (Q : VK) (E : XK) (h : sp_kept_sets K vs H Q E) : t_kept_sets K { nx := fun _ H' => Q .non H', rt := Q } (start ["picture", "told", "barred", "reached", "number"] vs) H := by
  obtain ⟨p, P, n, B, rfl, hp, VP, hn, hB, q⟩ := h
  have hcnt := VP.cnt
  unfold t_kept_sets
  wtm_at "gs"
  refine newL (by simp) fun o H1 no s1 ho => ?_
  wtm_at "gs"
  apply pic4 (hp.same s1)
  intro x4 h4
  obtain ⟨a4, os, rfl, g4, po⟩ := h4
  wtm_at "gs"
  refine w_len (.inr g4) ?_
  wtm_at "gs"
  have hol : os.length = n := by rw [po.length]; exact hcnt
  rw [hol]
  refine f_rng (by omega) (fun i σ' H' => ∃ y z, σ' = [some (.ref p), some (.ref o), y, z, none] ∧ KLs H H' o (kset n (dmP P)) i) ⟨none, none, rfl, s1, [], ho, rfl, fun b hb => by omega⟩ ?_ ?_
  · rintro k σ' H' hk ⟨y, z, rfl, kl⟩
    wtm_at "gs"
    refine ⟨p, P, (k : Int), n, B, rfl, hp.same kl.s, VP, by omega, hB, fun H2 d F L s2 nd hL hd hF => ?_⟩
    wtm_at "gs"
    have kl2 := kl.same s2
    obtain ⟨xs, ex, hxl, _⟩ := kl2.ex
    refine ⟨tyL ex, ?_⟩
    wtm_at "gs"
    apply pic4 (hp.same kl2.s)
    intro x4 h4
    obtain ⟨a4, os', rfl, g4', po'⟩ := h4
    wtm_at "gs"
    refine w_len (.inr g4') ?_
    wtm_at "gs"
    rw [show os'.length = n by rw [po'.length]; exact hcnt]
    refine l_rng (by omega) (fun D i H' => Same H2 H' ∧ H' D = some (.lst (iv (icast ((List.range i).filter (fun x => dmP P k x)))))) (fun D nD => ⟨same_new nD, upd_same⟩) ?_ ?_
    · rintro D i H3 nD hi ⟨s3, hD⟩
      have hlen := range_filter_len (fun x => dmP P k x) i
      have eF := hF (i : Int)
      have stT : dmP P k i = true → G.Kept D (fun H' => Same H2 H' ∧ H' D = some (.lst (iv (icast ((List.range (i + 1)).filter (fun x => dmP P k x)))))) (.int (i : Int)) H3 := by
        intro e
        rw [filter_range_succ, if_pos e, icast_app]
        exact kept hD (by rw [iv_len, icast_len]; omega) ⟨same_mut s3 nD, upd_same.trans (iv_snoc _ _)⟩
      have stF : dmP P k i = false → Same H2 H3 ∧ H3 D = some (.lst (iv (icast ((List.range (i + 1)).filter (fun x => dmP P k x))))) := by
        intro e
        rw [filter_range_succ, e, if_neg (by decide), List.append_nil]
        exact ⟨s3, hD⟩
      wtm_at "gs"
      refine ⟨rfl, ?_⟩
      wtm_at "gs"
      refine itnd (fun e => ?_) (fun e => ?_)
      · wtm_at "gs"
        refine ⟨d, _, rfl, (hd.same s3).get _, ?_⟩
        wtm_at "gs"
        have eb : (!(F (i : Int)).isSome) = dmP P k i := by
          rw [eF]
          refine Bool.eq_iff_iff.mpr ?_
          rw [dmP_iff, Bool.not_eq_true', decide_eq_false_iff_not, hL.iff]
          exact ⟨fun h => ⟨e, h⟩, fun h => h.2⟩
        rw [eb]
        refine itb (fun e => ?_) stF
        wtm_at "gs"
        exact stT e
      · refine iteF ?_
        refine stF ?_
        cases e2 : dmP P k i with
        | false => rfl
        | true => exact absurd e (dmP_iff.mp e2).1
    · rintro D H3 nD ⟨s3, hD⟩
      wtm_at "gs"
      have kl3 := kl2.same s3
      refine w_append (s3 _ _ ex) (by omega) ?_
      exact ⟨_, _, rfl, kl3.push no (s3 _ _ ex) (ne_of_none ex nD).symm hD⟩
  · rintro σ' H' ⟨y, z, rfl, kl⟩
    wtm_at "gs"
    obtain ⟨xs, ex, hl, hx⟩ := kl.ex
    refine q H' o xs kl.s no ex ⟨by omega, fun b hb => ?_⟩
    obtain ⟨l, _, e1, e2⟩ := hx b (by omega)
    exact ⟨l, e1, e2⟩
/-! ### keepers -/
theorem w_gsub {to ti : TE} {t : TSet} {v : V} {σ : L2.St} {H : Hp} {Q : L2.St → Hp → Prop} (h : to σ H fun o H1 => ti σ H1 fun i H2 => t o i v H2 fun H3 => Q σ H3) : gSub to ti t v σ H Q := h
theorem w_setL {a : Addr} {xs : List V} {k : Nat} {v : V} {H : Hp} {Q : Hp → Prop} (h : H a = some (.lst xs)) (hk : k < xs.length) (q : Q (upd H a (.lst (xs.set k v)))) : rSetL (.ref a) (.int (k : Int)) v H Q :=
  ⟨a, xs, k, k, rfl, rfl, h, by
    unfold ixN
    simp [hk], q⟩
def tab (n : Nat) (g : Nat → V) : List V := (List.range n).map g
theorem tab_len (n : Nat) (g : Nat → V) : (tab n g).length = n := by
  unfold tab
  rw [List.length_map, List.length_range]
theorem tab_get {n x : Nat} {g : Nat → V} (h : x < n) : (tab n g)[x]? = some (g x) := by
  unfold tab
  rw [List.getElem?_map, List.getElem?_range h]
  rfl
theorem tab_set {n x : Nat} {g : Nat → V} {v : V} : (tab n g).set x v = tab n (fun y => if y = x then v else g y) := by
  refine List.ext_getElem? fun i => ?_
  rw [List.getElem?_set, tab_len]
  by_cases hi : i < n
  · rw [tab_get hi]
    by_cases z : x = i
    · subst z
      rw [if_pos rfl, if_pos hi, tab_get hi, if_pos rfl]
    · rw [if_neg z, tab_get hi, if_neg (Ne.symm z)]
  · rw [List.getElem?_eq_none_iff.mpr (by rw [tab_len]; omega), List.getElem?_eq_none_iff.mpr (by rw [tab_len]; omega)]
    split
    · rw [if_neg (by omega)]
    · rfl
theorem tab_congr {n : Nat} {g g' : Nat → V} (h : ∀ x, x < n → g x = g' x) : tab n g = tab n g' := by
  unfold tab
  exact List.map_congr_left fun x hx => h x (List.mem_range.mp hx)
theorem rep_tab (n : Nat) (v : V) : (List.replicate n [v]).flatten = tab n (fun _ => v) := by
  induction n with
  | zero => rfl
  | succ n ih =>
    rw [List.replicate_succ', List.flatten_append, ih]
    unfold tab
    rw [List.range_succ, List.map_append]
    rfl
theorem mem_take_succ {l : List Nat} {j y x : Nat} (h : l[j]? = some y) : x ∈ l.take (j + 1) ↔ x ∈ l.take j ∨ x = y := by
  rw [List.take_add_one, h]
  simp
theorem nd_take {l : List Nat} {j y : Nat} (nd : l.Nodup) (h : l[j]? = some y) : y ∉ l.take j := fun m => by
  obtain ⟨i, hi⟩ := List.mem_iff_getElem?.mp m
  rw [List.getElem?_take] at hi
  split at hi
  · rename_i lt
    have h1 := List.getElem?_eq_some_iff.mp hi
    have h2 := List.getElem?_eq_some_iff.mp h
    obtain ⟨l1, e1⟩ := h1
    obtain ⟨l2, e2⟩ := h2
    have := (List.getElem_inj nd).mp (e1.trans e2.symm)
    omega
  · cases hi
theorem kset_nd {n b : Nat} {dm : Nat → Nat → Bool} : (kset n dm b).Nodup := List.nodup_range.filter _
theorem kset_len {n b : Nat} {dm : Nat → Nat → Bool} : (kset n dm b).length ≤ n := range_filter_len _ _
theorem kset_at {n b j y : Nat} {dm : Nat → Nat → Bool} (h : (kset n dm b)[j]? = some y) : y < n ∧ dm b y = true := kset_mem.mp (List.mem_of_getElem? h)
def cnt (dm : Nat → Nat → Bool) (i x : Nat) : Nat := (List.range i).countP fun b => dm b x
theorem cnt_succ {dm : Nat → Nat → Bool} {i x : Nat} : cnt dm (i + 1) x = cnt dm i x + if dm i x = true then 1 else 0 := by
  unfold cnt
  rw [List.range_succ, List.countP_append, List.countP_singleton]
theorem len_keepers (K : PySem.W.Frag) (vs : List V) (H : Hp) (Q : VK) (E : XK) (h : sp_keepers K vs H Q E) : vs.length = (["picture"] : List Str).length := by
  obtain ⟨p, P, n, B, rfl, _⟩ := h
  rfl
/-- what is told of x when k keepers were asked -/
def Told (n : Nat) (dm : Nat → Nat → Bool) (k x : Nat) (v : V) : Prop := (∃ j : Nat, j < k ∧ v = .int (j : Int) ∧ dm j x = true ∧ dep n dm x = dep n dm j + 1) ∨ (v = .non ∧ ∀ j, j < k → dm j x = true → dep n dm x ≠ dep n dm j + 1)
theorem Told.skip {n k x : Nat} {dm : Nat → Nat → Bool} {v : V} (h : Told n dm k x v) (hs : dm k x = true → dep n dm x ≠ dep n dm k + 1) : Told n dm (k + 1) x v := by
  rcases h with ⟨j, h1, h2⟩ | ⟨h1, h2⟩
  · exact .inl ⟨j, by omega, h2⟩
  · refine .inr ⟨h1, fun j hj => ?_⟩
    by_cases z : j = k
    · subst z
      exact hs
    · exact h2 j (by omega)
theorem pure_keepers (K : PySem.W.Frag) (vs : List V) (H : Hp) (Q : VK) (E : XK) (h : sp_keepers K vs H Q E) : t_keepers K { nx := fun _ H' => Q .non H', rt := Q } (start ["picture", "kept", "depths", "numbers", "number", "told", "keeper"] vs) H := by
  obtain ⟨p, P, n, B, rfl, hp, VP, hn, hB, q⟩ := h
  unfold t_keepers
  wtm_at "gs"
  refine ⟨p, P, n, B, rfl, hp, VP, hn, hB, fun H1 kq xs s1 nkq hkq hkl => ?_⟩
  generalize dmP P = dm at q hkl
  obtain ⟨hxl, hxs⟩ := hkl
  wtm_at "gs"
  refine newL (by simp) fun t1 H2 nt1 s2 ht1 => ?_
  wtm_at "gs"
  refine w_len (.l (s2 _ _ hkq)) ?_
  wtm_at "gs"
  rw [hxl]
  refine w_rep ht1 (by omega) (by omega) (by show 1 * _ ≤ _; omega) fun o H3 no s3 ho => ?_
  have no1 : H1 o = none := s2.free no
  rw [show ((n : Int)).toNat = n by omega, rep_tab] at ho
  wtm_at "gs"
  refine f_seq0 (K := K) (H0 := H1) (.l hkq) (fun i σ' H' => ∃ y z, σ' = [some (.ref p), some (.ref kq), some (.ref o), y, z, none, none] ∧ Same H1 H' ∧ H' o = some (.lst (tab n fun x => .int (cnt dm i x : Nat)))) ⟨none, none, rfl, s2.trans s3, ho⟩ (fun i σ' H' ⟨_, _, _, s, _⟩ => s) ?_ ?_
  · rintro i z σ' H' hz ⟨y, w, rfl, s, hO⟩
    have hi : i < n := by
      have := (List.getElem?_eq_some_iff.mp hz).1
      omega
    obtain ⟨l, el, hl⟩ := hxs i hi
    rw [el] at hz
    cases hz
    wtm_at "gs"
    refine f_seq0 (K := K) (H0 := H1) (.l hl) (fun j σ' H' => ∃ w, σ' = [some (.ref p), some (.ref kq), some (.ref o), some (.ref l), w, none, none] ∧ Same H1 H' ∧ H' o = some (.lst (tab n fun x => .int ((cnt dm i x + if x ∈ (kset n dm i).take j then 1 else 0 : Nat) : Int)))) ⟨w, rfl, s, ?_⟩ (fun i σ' H' ⟨_, _, s, _⟩ => s) ?_ ?_
    · rw [hO]
      congr 2
    · rintro j z σ' H' hz ⟨w, rfl, s, hO⟩
      obtain ⟨y, hy, rfl⟩ := icast_at hz
      have hyn := (kset_at hy).1
      wtm_at "gs"
      refine w_ixn (.l hO) (tab_get hyn) ?_
      wtm_at "gs"
      refine w_gsub ?_
      wtm_at "gs"
      refine w_setL hO (by rw [tab_len]; exact hyn) ?_
      refine ⟨_, rfl, same_mut s no1, ?_⟩
      rw [upd_same, tab_set]
      congr 2
      refine tab_congr fun x hx => ?_
      have m := mem_take_succ (x := x) hy
      have ny := nd_take kset_nd hy
      by_cases z : x = y
      · subst z
        rw [if_pos rfl, if_neg ny, if_pos (m.mpr (.inr rfl))]
        rfl
      · rw [if_neg z]
        by_cases c : x ∈ (kset n dm i).take j
        · rw [if_pos c, if_pos (m.mpr (.inl c))]
        · rw [if_neg c, if_neg fun h => by
            rcases m.mp h with h | h
            · exact c h
            · exact z h]
    · rintro σ' H' ⟨w, rfl, s, hO⟩
      refine ⟨_, _, rfl, s, ?_⟩
      rw [hO, iv_len, icast_len, List.take_length]
      congr 2
      refine tab_congr fun x hx => ?_
      rw [cnt_succ]
      by_cases c : dm i x = true
      · rw [if_pos c, if_pos (kset_mem.mpr ⟨hx, c⟩)]
      · rw [if_neg c, if_neg fun h => c (kset_mem.mp h).2]
  rintro σ' H4 ⟨y, w, rfl, s4, hO⟩
  rw [hxl] at hO
  wtm_at "gs"
  refine newL (by simp) fun t2 H5 nt2 s5 ht2 => ?_
  wtm_at "gs"
  refine w_len (.l (s5 _ _ (s4 _ _ hkq))) ?_
  wtm_at "gs"
  rw [hxl]
  refine w_rep ht2 (by omega) (by omega) (by show 1 * _ ≤ _; omega) fun g H6 ng s6 hg => ?_
  have ng4 : H4 g = none := s5.free ng
  have s46 := s5.trans s6
  rw [show ((n : Int)).toNat = n by omega, rep_tab] at hg
  wtm_at "gs"
  refine w_len (.l (s46 _ _ (s4 _ _ hkq))) ?_
  wtm_at "gs"
  rw [hxl]
  refine f_rng (by omega) (fun i σ' H' => ∃ y z w f, σ' = [some (.ref p), some (.ref kq), some (.ref o), y, z, some (.ref g), w] ∧ Same H4 H' ∧ H' g = some (.lst (tab n f)) ∧ ∀ x, x < n → Told n dm i x (f x)) ⟨_, _, _, _, rfl, s46, hg, fun x hx => .inr ⟨rfl, fun j hj => by omega⟩⟩ ?_ ?_
  · rintro i σ' H' hi ⟨y, z, w, f, rfl, s, hG, hT⟩
    have hin : i < n := by omega
    obtain ⟨l, el, hl⟩ := hxs i hin
    wtm_at "gs"
    refine w_ixn (.l (s _ _ (s4 _ _ hkq))) el ?_
    refine f_seq0 (K := K) (H0 := H1) (.l hl) (fun j σ' H' => ∃ z f, σ' = [some (.ref p), some (.ref kq), some (.ref o), y, z, some (.ref g), some (.int (i : Int))] ∧ Same H4 H' ∧ H' g = some (.lst (tab n f)) ∧ ∀ x, x < n → if x ∈ (kset n dm i).take j then Told n dm (i + 1) x (f x) else Told n dm i x (f x)) ⟨z, f, rfl, s, hG, fun x hx => by
      rw [if_neg (by simp)]
      exact hT x hx⟩ (fun i σ' H' ⟨_, _, _, s, _⟩ => s4.trans s) ?_ ?_
    · rintro j zz σ' H' hz ⟨z, f, rfl, s, hG, hT⟩
      obtain ⟨y0, hy, rfl⟩ := icast_at hz
      have hyn := kset_at hy
      have ny := nd_take kset_nd hy
      have hO' : H' o = some (.lst (tab n fun x => .int (cnt dm n x : Nat))) := s _ _ hO
      wtm_at "gs"
      refine w_ixn (.l hO') (tab_get hin) ?_
      wtm_at "gs"
      refine w_ixn (.l hO') (tab_get hyn.1) ?_
      wtm_at "gs"
      refine itd (fun e => ?_) (fun e => ?_)
      · wtm_at "gs"
        refine w_gsub ?_
        wtm_at "gs"
        refine w_setL hG (by rw [tab_len]; exact hyn.1) ?_
        refine ⟨_, _, rfl, same_mut s ng4, by rw [upd_same, tab_set], fun x hx => ?_⟩
        have m := mem_take_succ (x := x) hy
        have hx1 := hT x hx
        by_cases z : x = y0
        · subst z
          rw [if_pos (m.mpr (.inr rfl)), if_pos rfl]
          refine .inl ⟨i, by omega, rfl, hyn.2, ?_⟩
          show cnt dm n x = cnt dm n i + 1
          omega
        · rw [if_neg z]
          by_cases c : x ∈ (kset n dm i).take j
          · rw [if_pos c] at hx1
            rw [if_pos (m.mpr (.inl c))]
            exact hx1
          · rw [if_neg c] at hx1
            rw [if_neg fun h => (m.mp h).elim c z]
            exact hx1
      · wtm_at "gs"
        refine ⟨_, _, rfl, s, hG, fun x hx => ?_⟩
        have m := mem_take_succ (x := x) hy
        have hx1 := hT x hx
        by_cases z : x = y0
        · subst z
          rw [if_pos (m.mpr (.inr rfl))]
          rw [if_neg ny] at hx1
          refine hx1.skip fun _ h => e ?_
          have h : cnt dm n x = cnt dm n i + 1 := h
          omega
        · by_cases c : x ∈ (kset n dm i).take j
          · rw [if_pos c] at hx1
            rw [if_pos (m.mpr (.inl c))]
            exact hx1
          · rw [if_neg c] at hx1
            rw [if_neg fun h => (m.mp h).elim c z]
            exact hx1
    · rintro σ' H' ⟨z, f, rfl, s, hG, hT⟩
      refine ⟨_, _, _, _, rfl, s, hG, fun x hx => ?_⟩
      have hx1 := hT x hx
      rw [iv_len, icast_len, List.take_length] at hx1
      by_cases c : x ∈ kset n dm i
      · rw [if_pos c] at hx1
        exact hx1
      · rw [if_neg c] at hx1
        exact hx1.skip fun h => absurd (kset_mem.mpr ⟨hx, h⟩) c
  · rintro σ' H' ⟨y, z, w, f, rfl, s, hG, hT⟩
    wtm_at "gs"
    refine w_tuple (.l hG) fun r H8 s8 hr => ?_
    refine q H8 r (tab n f) (s1.trans (s4.trans (s.trans s8))) hr ⟨tab_len _ _, fun x hx => ?_⟩
    rw [tab_get hx]
    have h1 := hT x hx
    rw [show ((n : Int)).toNat = n by omega] at h1
    rcases h1 with ⟨j, h1, h2, h3⟩ | ⟨h1, h2⟩
    · exact .inl ⟨j, h1, congrArg some h2, h3⟩
    · exact .inr ⟨congrArg some h1, h2⟩
/-! ### is it told right -/
theorem isi_tup {K : PySem.W.Frag} {H : Hp} {a : Addr} {ys : List V} {Q : VK} (h : SqT K H a ys) (q : Q (.bl true) H) : rIsi K [.ref a, .ty "tuple"] H Q := by
  refine ⟨_, _, .type "tuple", .type "tuple", true, rfl, .ty _, ?_, ?_, q⟩
  · rcases h with (h | ⟨o, h⟩) | ⟨o, its, n, h1, h2, _⟩
    · exact .base (.tup h)
    · exact .fTuple h
    · exact .kTuple h1 h2
  · unfold PySem.W.kitOne
    rw [if_pos (by decide +kernel)]
theorem flat_iv : ∀ ws : List Int, (iv ws).all flatV = true
  | [] => rfl
  | w :: ws => by
    show (true && (iv ws).all flatV) = true
    rw [flat_iv ws]
    rfl
theorem inV_iv {i : Int} : ∀ ws : List Int, inV (.int i) (iv ws) = decide (i ∈ ws)
  | [] => by
    simp [iv, inV]
  | w :: ws => by
    have ih := inV_iv (i := i) ws
    show (eqV (.int w) (.int i) || inV (.int i) (iv ws)) = _
    rw [ih]
    show ((w == i) || _) = _
    by_cases z : w = i
    · subst z
      simp
    · have : (w == i) = false := by simpa using z
      rw [this, Bool.false_or]
      refine decide_eq_decide.mpr ⟨List.mem_cons_of_mem _, fun h => ?_⟩
      rcases List.mem_cons.mp h with h | h
      · exact absurd h.symm z
      · exact h
theorem w_notin {K : PySem.W.Frag} {H : Hp} {a : Addr} {ws : List Int} {i : Int} {Q : VK} (h : H a = some (.lst (iv ws))) (q : Q (.bl (!decide (i ∈ ws))) H) : rIn K true (.int i) (.ref a) H Q := by
  refine ⟨a, _, rfl, .inl (.of h), rfl, flat_iv ws, ?_⟩
  rw [inV_iv]
  exact q
theorem icast_mem {l : List Nat} {x : Nat} : (x : Int) ∈ icast l ↔ x ∈ l := by
  unfold icast
  rw [List.mem_map]
  constructor
  · rintro ⟨y, h, e⟩
    rw [show x = y by omega]
    exact h
  · exact fun h => ⟨x, h, rfl⟩
theorem len__law_right (K : PySem.W.Frag) (vs : List V) (H : Hp) (Q : VK) (E : XK) (h : sp__law_right K vs H Q E) : vs.length = (["_law_told", "_law_kept"] : List Str).length := by
  obtain ⟨t, l, ys, xs, n, dm, rfl, _⟩ := h
  rfl
theorem pure__law_right (K : PySem.W.Frag) (vs : List V) (H : Hp) (Q : VK) (E : XK) (h : sp__law_right K vs H Q E) : t__law_right K { nx := fun _ H' => Q .non H', rt := Q } (start ["_law_told", "_law_kept", "_law_k", "_law_further", "_law_j"] vs) H := by
  obtain ⟨t, kq, ys, xs, n, dm, rfl, ht, ⟨hyl, hk⟩, hkq, ⟨hxl, hxs⟩, O, hn, q⟩ := h
  unfold t__law_right
  wtm_at "gs"
  refine isi_tup ht ?_
  wtm_at "gs"
  refine iteF ?_
  wtm_at "gs"
  refine w_len (.inr ht) ?_
  wtm_at "gs"
  refine w_len (.l hkq) ?_
  wtm_at "gs"
  refine itnd (fun e => absurd (by omega) e) (fun _ => ?_)
  wtm_at "gs"
  refine w_len (.l hkq) ?_
  wtm_at "gs"
  rw [hxl]
  refine f_rng (by omega) (fun i σ' H' => ∃ y z w, σ' = [some (.ref t), some (.ref kq), y, z, w] ∧ Same H H') ⟨_, _, _, rfl, fun _ _ h => h⟩ ?_ ?_
  · rintro k σ' H' hkk ⟨y, z, w, rfl, s⟩
    have hkn : k < n := by omega
    obtain ⟨l, el, hl⟩ := hxs k hkn
    wtm_at "gs"
    refine w_ixn (.l (s _ _ hkq)) el ?_
    wtm_at "gs"
    refine w_len (.l (s _ _ hl)) ?_
    wtm_at "gs"
    rw [iv_len, icast_len]
    refine itd (fun e => ?_) (fun e => ?_)
    · wtm_at "gs"
      have e0 : dset n dm k = [] := List.length_eq_zero_iff.mp (by omega)
      rcases hk k hkn with ⟨j, h1, h2, h3, _⟩ | ⟨h1, _⟩
      · have := dset_mem.mpr ⟨h1, h3⟩
        rw [e0] at this
        cases this
      · refine w_ixn (.inr (sqt_same s ht)) h1 ?_
        wtm_at "gs"
        exact ⟨_, _, _, rfl, s⟩
    · obtain ⟨b, hb⟩ : ∃ b, b ∈ dset n dm k := List.exists_mem_of_ne_nil _ fun z => e (by rw [z]; rfl)
      obtain ⟨hb1, hb2⟩ := dset_mem.mp hb
      obtain ⟨j0, hj0, ej, hj1, hj2⟩ : ∃ j : Nat, j < n ∧ ys[k]? = some (.int (j : Int)) ∧ dm j k = true ∧ dep n dm k = dep n dm j + 1 := by
        rcases hk k hkn with ⟨j, h⟩ | ⟨h1, h2⟩
        · exact ⟨j, h⟩
        · obtain ⟨m, g1, g2, g3⟩ := O.ex hkn hb1 hb2
          exact absurd g3 (h2 m g1 g2)
      obtain ⟨l2, el2, hl2⟩ := hxs j0 hj0
      wtm_at "gs"
      refine w_ixn (.inr (sqt_same s ht)) ej ?_
      wtm_at "gs"
      refine ⟨_, rfl, .inl ⟨_, rfl, ?_⟩⟩
      wtm_at "gs"
      refine iteF ?_
      wtm_at "gs"
      refine w_ixn (.inr (sqt_same s ht)) ej ?_
      wtm_at "gs"
      refine w_ixn (.l (s _ _ hkq)) el ?_
      refine w_notin (s _ _ hl) ?_
      rw [decide_eq_true (icast_mem.mpr (dset_mem.mpr ⟨hj0, hj1⟩))]
      wtm_at "gs"
      refine iteF ?_
      wtm_at "gs"
      refine w_ixn (.l (s _ _ hkq)) el ?_
      refine l_seq0 (K := K) (H0 := H) (.l hl) s (fun D i H' => Same H H' ∧ H' D = some (.lst [])) (fun D nD => ⟨s.trans (same_new nD), upd_same⟩) (fun D i H' nD ⟨s, _⟩ => s) ?_ ?_
      · rintro D i zz H2 nD hz ⟨s2, hD⟩
        obtain ⟨x, hx, rfl⟩ := icast_at hz
        have hxd := dset_mem.mp (List.mem_of_getElem? hx)
        wtm_at "gs"
        refine ⟨rfl, ?_⟩
        wtm_at "gs"
        refine w_ixn (.inr (sqt_same s2 ht)) ej ?_
        wtm_at "gs"
        refine itnd (fun e => ?_) (fun e => ?_)
        · wtm_at "gs"
          refine w_ixn (.inr (sqt_same s2 ht)) ej ?_
          refine w_ixn (.l (s2 _ _ hkq)) el2 ?_
          refine w_notin (s2 _ _ hl2) ?_
          rw [decide_eq_true (icast_mem.mpr (dset_mem.mpr ⟨hxd.1, O.right hj0 hkn hj1 hj2 hxd.1 hxd.2 (by omega)⟩))]
          wtm_at "gs"
          exact iteF ⟨s2, hD⟩
        · exact iteF ⟨s2, hD⟩
      · rintro D H2 nD ⟨s2, hD⟩
        wtm_at "gs"
        refine w_len (.l hD) ?_
        wtm_at "gs"
        exact ⟨_, _, _, rfl, s2⟩
  · rintro σ' H' ⟨y, z, w, rfl, s⟩
    wtm_at "gs"
    exact q H' s
/-! ### who is kept by whom, by the law -/
/-- lists of numbers that grow -/
structure Tk (H1 H' : Hp) (o : Addr) (as : List Addr) (f : Nat → List Nat) : Prop where
  s : Same H1 H'
  o_ : H' o = some (.lst (as.map V.ref))
  nd : as.Nodup
  no : H1 o = none
  na : o ∉ as
  fr : ∀ l ∈ as, H1 l = none
  ex : ∀ (b : Nat) l, as[b]? = some l → H' l = some (.lst (iv (icast (f b))))
section
variable {H1 H' H2 : Hp} {o l : Addr} {as : List Addr} {f g : Nat → List Nat}
theorem Tk.same (t : Tk H1 H' o as f) (s : Same H' H2) : Tk H1 H2 o as f := ⟨t.s.trans s, s _ _ t.o_, t.nd, t.no, t.na, t.fr, fun b l h => s _ _ (t.ex b l h)⟩
theorem Tk.cong (t : Tk H1 H' o as f) (h : ∀ b, b < as.length → f b = g b) : Tk H1 H' o as g := ⟨t.s, t.o_, t.nd, t.no, t.na, t.fr, fun b l e => by
  rw [← h b (List.getElem?_eq_some_iff.mp e).1]
  exact t.ex b l e⟩
theorem Tk.push (t : Tk H1 H' o as f) (s : Same H' H2) (nl : H' l = none) (e : H2 l = some (.lst (iv (icast (f as.length))))) : Tk H1 (upd H2 o (.lst ((as ++ [l]).map V.ref))) o (as ++ [l]) f := by
  have nol : o ≠ l := ne_of_none t.o_ nl
  have nla : l ∉ as := fun h => by
    obtain ⟨i, hi⟩ := List.mem_iff_getElem?.mp h
    have := t.ex i l hi
    rw [nl] at this
    cases this
  refine ⟨same_mut (t.s.trans s) t.no, upd_same, ?_, t.no, ?_, ?_, fun b m h => ?_⟩
  · refine List.nodup_append.mpr ⟨t.nd, by simp, fun a ha b hb => ?_⟩
    rw [List.mem_singleton.mp hb]
    exact fun z => nla (z ▸ ha)
  · intro h
    rcases List.mem_append.mp h with h | h
    · exact t.na h
    · exact nol (List.mem_singleton.mp h)
  · intro m h
    rcases List.mem_append.mp h with h | h
    · exact t.fr m h
    · rw [List.mem_singleton.mp h]
      exact t.s.free nl
  · by_cases z : b < as.length
    · rw [List.getElem?_append_left z] at h
      have h1 := t.ex b m h
      exact get_ne (s _ _ h1) fun q => t.na (q ▸ List.mem_of_getElem? h)
    · have hb := (List.getElem?_eq_some_iff.mp h).1
      rw [List.length_append] at hb
      have hb : b < as.length + 1 := hb
      have : b = as.length := by omega
      subst this
      rw [List.getElem?_append_right (Nat.le_refl _), Nat.sub_self] at h
      cases h
      exact get_ne e nol.symm
/-- one of them grows -/
theorem Tk.grow {j k : Nat} (t : Tk H1 H' o as f) (h : as[j]? = some l) (hg : ∀ b, b < as.length → g b = if b = j then f j ++ [k] else f b) : Tk H1 (upd H' l (.lst (iv (icast (f j)) ++ [.int (k : Int)]))) o as g := by
  have hl := List.mem_of_getElem? h
  have nol : o ≠ l := fun z => t.na (z ▸ hl)
  refine ⟨same_mut t.s (t.fr l hl), get_ne t.o_ nol, t.nd, t.no, t.na, t.fr, fun b m hb => ?_⟩
  have hbl := (List.getElem?_eq_some_iff.mp hb).1
  rw [hg b hbl]
  by_cases z : b = j
  · subst z
    rw [h] at hb
    cases hb
    rw [if_pos rfl, upd_same, icast_app]
    exact iv_snoc _ _
  · rw [if_neg z]
    refine get_ne (t.ex b m hb) fun q => z ?_
    subst q
    have h1 := List.getElem?_eq_some_iff.mp hb
    have h2 := List.getElem?_eq_some_iff.mp h
    obtain ⟨l1, e1⟩ := h1
    obtain ⟨l2, e2⟩ := h2
    exact (List.getElem_inj t.nd).mp (e1.trans e2.symm)
theorem Tk.kl {n : Nat} (t : Tk H1 H' o as f) (hn : as.length = n) : KL H' (as.map V.ref) f n := by
  refine ⟨by rw [List.length_map, hn], fun b hb => ?_⟩
  have hb : b < as.length := by omega
  exact ⟨as[b], by rw [List.getElem?_map, List.getElem?_eq_getElem hb]; rfl, t.ex b _ (List.getElem?_eq_getElem hb)⟩
end
theorem w_slA {K : PySem.W.Frag} {H : Hp} {a : Addr} {xs : List V} {lo hi : Option Int} {Q : VK} (h : SqT K H a xs) (k : ∀ p H', Same H H' → SqT K H' p (cutV xs lo hi) → Q (.ref p) H') : rSlA K (.ref a) lo hi H Q := by
  refine ⟨a, xs, rfl, h, fun e => k a H (fun _ _ h => h) ?_, fun _ p np => k p _ (same_new np) (.of upd_same)⟩
  have : cutV xs lo hi = xs := by
    unfold cutV
    rw [e.1, e.2]
    simp
  rw [this]
  exact h
theorem cut_to {xs : List V} {k : Nat} (h : k ≤ xs.length) : cutV xs none (some (k : Int)) = xs.take k := by
  unfold cutV
  rw [HT.sIx_none, HT.sIx_nat]
  simp
theorem cut_fr {xs : List V} {k : Nat} (h : k ≤ xs.length) : cutV xs (some (k : Int)) none = xs.drop k := by
  rw [cut_from, show min k xs.length = k by omega]
  rw [List.take_of_length_le]
  rw [List.length_drop]
  omega
theorem ptake {α β : Type} {F : α → β → Prop} : ∀ {xs : List α} {ys : List β} (k : Nat), Paired F xs ys → Paired F (xs.take k) (ys.take k)
  | _, _, 0, _ => .nil
  | _, _, k + 1, .nil => .nil
  | _, _, k + 1, .cons r t => .cons r (ptake k t)
theorem pdrop {α β : Type} {F : α → β → Prop} : ∀ {xs : List α} {ys : List β} (k : Nat), Paired F xs ys → Paired F (xs.drop k) (ys.drop k)
  | _, _, 0, h => h
  | _, _, k + 1, .nil => .nil
  | _, _, k + 1, .cons _ t => pdrop k t
theorem len__law_kept_by (K : PySem.W.Frag) (vs : List V) (H : Hp) (Q : VK) (E : XK) (h : sp__law_kept_by K vs H Q E) : vs.length = (["_law_parts"] : List Str).length := by
  obtain ⟨x, N, n, B, rfl, _⟩ := h
  rfl
theorem dict_loop {K : PySem.W.Frag} {H : Hp} {o d : Addr} {L : List Int} {nx : L2.St → Hp → Prop} {r : VK} {b c : L2.St → Hp → Prop} {x0 x1 x2 x3 x6 : Option V} (ho : H o = some (.lst (iv L))) (hd : H d = some (.dK [])) (hL : L.length ≤ 100000)
    (q : ∀ H' F y, (∀ b, b ≠ d → H' b = H b) → IDict H' d F L.length → (∀ k, (F k).isSome = decide (k ∈ L)) → nx [x0, x1, x2, x3, some (.ref o), some (.ref d), y] H') :
    rSeqIt K (ForK (gName 6) (sDPut (tVar 5) (tVar 6) (tC (.bl true))) ⟨nx, r, b, c⟩ [x0, x1, x2, x3, some (.ref o), some (.ref d), x6]) (.ref o) H := by
  have nod : o ≠ d := fun z => by
    subst z
    rw [ho] at hd
    cases hd
  refine f_seq (.l ho) (fun i σ' H' => ∃ y F, σ' = [x0, x1, x2, x3, some (.ref o), some (.ref d), y] ∧ (∀ b, b ≠ d → H' b = H b) ∧ IDict H' d F i ∧ ∀ k, (F k).isSome = decide (k ∈ L.take i)) ⟨x6, fun _ => none, rfl, fun _ _ => rfl, .new hd, fun k => by simp⟩ (fun i σ' H' ⟨_, _, _, fr, _⟩ => stays_eq (fr o nod)) ?_ ?_
  · rintro i z σ' H' hz ⟨y, F, rfl, fr, hD, hF⟩
    obtain ⟨w, hw, rfl⟩ := iv_at hz
    have hi := (List.getElem?_eq_some_iff.mp hw).1
    wtm_at "gs"
    obtain ⟨od, dp, hD2, kvs, rfl⟩ := hD.put (by omega) w (.bl true)
    refine ⟨d, _, rfl, dp, _, fput F w (.bl true), rfl, fun b nb => by rw [upd_ne nb]; exact fr b nb, hD2 _ upd_same, fun k => ?_⟩
    unfold fput
    rw [take_get hw]
    by_cases z : k = w
    · subst z
      rw [if_pos rfl]
      simp
    · rw [if_neg z, hF k]
      refine decide_eq_decide.mpr ⟨fun h => List.mem_append.mpr (.inl h), fun h => ?_⟩
      rcases List.mem_append.mp h with h | h
      · exact h
      · exact absurd (List.mem_singleton.mp h) z
  · rintro σ' H' ⟨y, F, rfl, fr, hD, hF⟩
    rw [iv_len] at hD hF
    rw [List.take_length] at hF
    exact q H' F y fr hD hF
theorem pure__law_kept_by (K : PySem.W.Frag) (vs : List V) (H : Hp) (Q : VK) (E : XK) (h : sp__law_kept_by K vs H Q E) : t__law_kept_by K { nx := fun _ H' => Q .non H', rt := Q } (start ["_law_parts", "_law_rows", "_law_told", "_law_k", "_law_order", "_law_met", "_law_j"] vs) H := by
  obtain ⟨x, N, n, B, rfl, hN, VN, hn, hB, q⟩ := h
  have hr : ∀ ws ∈ N.rows, Vals' n ws := fun ws h => (VN.rows ws h).1
  have hq : ∀ ws ∈ N.pays, Vals' n ws := fun ws h => (VN.pays ws h).1
  unfold t__law_kept_by
  wtm_at "gs"
  refine call_rows (fun _ _ h => h) (fun _ _ h => h) hN.any (Nat.le_trans VN.frs (by omega)) fun H1 p rs s1 np hp pr => ?_
  obtain ⟨a, x0, x1, x2, x3, x4, rfl, ha, h0, h1, h2, h3, h4⟩ := hN
  obtain ⟨a4, os, rfl, g4, po⟩ := h4
  have hol : os.length = n := by rw [po.length]; exact VN.cnt
  have hpl : N.pays.length = n := by
    unfold Pic.pays
    rw [List.length_map]
    exact VN.cnt
  wtm_at "gs"
  refine w_ixn (k := 4) (.l (s1 _ _ ha)) rfl ?_
  refine l_seq0 (K := K) (H0 := H) (.inr g4) s1 (fun D i H' => ∃ as, Tk H1 H' D as (fun _ => []) ∧ as.length = i) (fun D nD => ⟨[], ⟨same_new nD, upd_same, List.nodup_nil, nD, by simp, fun _ h => (by cases h), fun b l h => (by simp at h)⟩, rfl⟩) (fun D i H' nD ⟨_, t, _⟩ => s1.trans t.s) ?_ ?_
  · rintro D i z H' nD hz ⟨as, t, hl⟩
    have hi := (List.getElem?_eq_some_iff.mp hz).1
    wtm_at "gs"
    refine ⟨rfl, ?_⟩
    wtm_at "gs"
    refine newL (by simp) fun l H2 nl s2 hl2 => ?_
    refine kept (s2 _ _ t.o_) (by rw [List.length_map]; omega) ⟨as ++ [l], ?_, by rw [List.length_append, hl]; rfl⟩
    have := t.push s2 nl hl2
    rw [List.map_append] at this
    exact this
  rintro o H2 no ⟨as, t, hal⟩
  rw [hol] at hal
  have hp2 := t.s _ _ hp
  wtm_at "gs"
  refine w_ixn (k := 4) (.l (t.s _ _ (s1 _ _ ha))) rfl ?_
  wtm_at "gs"
  refine w_len (.inr (sqt_same (s1.trans t.s) g4)) ?_
  wtm_at "gs"
  rw [hol]
  refine f_rng (by omega) (fun k σ' H' => ∃ y z w v, σ' = [some (.ref a), some (.ref p), some (.ref o), y, z, w, v] ∧ Tk H1 H' o as (fun j => (List.range k).filter fun b => dmP N b j)) ⟨_, _, _, _, rfl, t⟩ ?_ ?_
  · rintro k σ' H' hk ⟨y, z, w, v, rfl, t⟩
    have hkn : k < n := by omega
    have s0 := s1.trans t.s
    wtm_at "gs"
    refine w_ixn (k := 4) (.l (s0 _ _ ha)) rfl ?_
    wtm_at "gs"
    refine ⟨_, rfl, ?_⟩
    refine w_slA (sqt_same s0 g4) fun t1 H3 s3 ht1 => ?_
    wtm_at "gs"
    refine w_list (.inr ht1) fun t2 H4 nt2 s4 ht2 => ?_
    have s04 := s0.trans (s3.trans s4)
    wtm_at "gs"
    refine w_ixn (k := 4) (.l (s04 _ _ ha)) rfl ?_
    obtain ⟨ob, hob⟩ : ∃ ob, N.objs[k]? = some ob := ⟨_, List.getElem?_eq_getElem (by have := VN.cnt; omega)⟩
    obtain ⟨vv, hv, b, c, rfl, g5, hc⟩ := pget po hob
    wtm_at "gs"
    refine w_ixn (.inr (sqt_same s04 g4)) hv ?_
    wtm_at "gs"
    refine w_ixn (k := 0) (.inr (sqt_same s04 g5)) rfl ?_
    wtm_at "gs"
    refine newT (by simp) fun t3 H5 nt3 s5 ht3 => ?_
    wtm_at "gs"
    refine newT (by simp) fun t4 H6 nt4 s6 ht4 => ?_
    wtm_at "gs"
    refine newL (by simp) fun t5 H7 nt5 s7 ht5 => ?_
    have s47 := s5.trans (s6.trans s7)
    refine w_cat (s47 _ _ ht2) ht5 ?_ fun t6 H8 nt6 s8 ht6 => ?_
    · have := cutV_length os none (some (k : Int))
      show _ + 1 ≤ _
      omega
    wtm_at "gs"
    have s08 := s04.trans (s47.trans s8)
    refine w_ixn (k := 4) (.l (s08 _ _ ha)) rfl ?_
    wtm_at "gs"
    refine ⟨_, rfl, ?_⟩
    wtm_at "gs"
    refine w_slA (sqt_same s08 g4) fun t7 H9 s9 ht7 => ?_
    wtm_at "gs"
    refine w_list (.inr ht7) fun t8 H10 nt8 s10 ht8 => ?_
    have s810 := s9.trans s10
    rw [show ((k : Int) + 1) = ((k + 1 : Nat) : Int) by omega, cut_fr (by omega)] at ht8
    rw [cut_to (by omega)] at ht6
    refine w_cat (s810 _ _ ht6) ht8 ?_ fun t9 H11 nt9 s11 ht9 => ?_
    · rw [List.length_append, List.length_take, List.length_drop]
      show min k os.length + 1 + (os.length - (k + 1)) ≤ _
      omega
    wtm_at "gs"
    have s011 := s08.trans (s810.trans s11)
    have s411 := s8.trans (s810.trans s11)
    have tt := t.same (s3.trans (s4.trans (s47.trans s411)))
    have p9 : Paired (RO (SQ K H11)) ((os.take k ++ [.ref t4]) ++ os.drop (k + 1)) ((N.objs.take k ++ [(ob.1, [])]) ++ N.objs.drop (k + 1)) := by
      have hm : ∀ v o, RO (ST K H) v o → RO (SQ K H11) v o := fun v o h => (h.mono st_sq).mono (sq_m s011)
      refine papp (papp (Paired.mapP (ptake k po) hm) (.cons ⟨t4, .ref t3, rfl, .t (s411 _ _ (s7 _ _ ht4)), t3, rfl, .t (s411 _ _ (s7 _ _ (s6 _ _ ht3)))⟩ .nil)) (Paired.mapP (pdrop (k + 1) po) hm)
    have em : ((N.objs.take k ++ [(ob.1, ([] : List Int))]) ++ N.objs.drop (k + 1)).map (·.2) = N.pays.take k ++ [] :: N.pays.drop (k + 1) := by
      unfold Pic.pays
      rw [List.map_append, List.map_append, List.map_take, List.map_drop, List.append_assoc]
      rfl
    have hev := empty_vals (k := k) hq
    refine ⟨.ref p, .ref t9, N.rows, (N.objs.take k ++ [(ob.1, [])]) ++ N.objs.drop (k + 1), n, B, rfl, ⟨p, rs, rfl, .l (tt.s _ _ hp), Paired.mapP pr fun _ _ z => z.mono (sq_m s011)⟩, ⟨t9, _, rfl, .l ht9, p9⟩, ?_, by omega, by omega, VN.rows, ?_, fun H12 ord L s12 nord hord hL => ?_⟩
    · have := VN.cnt
      rw [List.length_append, List.length_append, List.length_take, List.length_drop]
      show min k N.objs.length + 1 + (N.objs.length - (k + 1)) = n
      omega
    · intro o ho
      have h1 : o.2 ∈ ((N.objs.take k ++ [(ob.1, ([] : List Int))]) ++ N.objs.drop (k + 1)).map (·.2) := List.mem_map.mpr ⟨o, ho, rfl⟩
      refine ⟨hev _ (by rw [← em]; exact h1), ?_⟩
      rw [em] at h1
      rcases List.mem_append.mp h1 with h1 | h1
      · exact (VN.pays _ (List.mem_of_mem_take h1)).2
      · rcases List.mem_cons.mp h1 with h1 | h1
        · rw [h1]
          exact Nat.zero_le _
        · exact (VN.pays _ (List.mem_of_mem_drop h1)).2
    rw [em] at hL
    have t12 := tt.same s12
    wtm_at "gs"
    refine w_dnew fun d H13 nd s13 hd => ?_
    wtm_at "gs"
    refine dict_loop (s13 _ _ hord) hd (Nat.le_trans (hL.small hr hev) (by omega)) fun H14 F y fr hD hF => ?_
    have s14 : Same H12 H14 := fun b u e => by
      rw [fr b (ne_of_none e nd)]
      exact s13 _ _ e
    have t14 := t12.same s14
    have ndl : ∀ l ∈ as, d ≠ l := fun l hl => by
      obtain ⟨i, hi⟩ := List.mem_iff_getElem?.mp hl
      exact (ne_of_none (t12.ex i l hi) nd).symm
    have s014 := s1.trans t14.s
    wtm_at "gs"
    refine w_ixn (k := 4) (.l (s014 _ _ ha)) rfl ?_
    wtm_at "gs"
    refine w_len (.inr (sqt_same s014 g4)) ?_
    wtm_at "gs"
    rw [hol]
    refine f_rng (by omega) (fun j σ' H' => ∃ v, σ' = [some (.ref a), some (.ref p), some (.ref o), some (.int (k : Int)), some (.ref ord), some (.ref d), v] ∧ Tk H1 H' o as (fun b => if b < j then (List.range (k + 1)).filter (fun c => dmP N c b) else (List.range k).filter (fun c => dmP N c b)) ∧ IDict H' d F L.length) ⟨_, rfl, t14.cong fun b _ => rfl, hD⟩ ?_ ?_
    · rintro j σ' H' hj ⟨v, rfl, tj, hD⟩
      have hjn : j < n := by omega
      have hja : j < as.length := by omega
      have stF : dmP N k j = false → Tk H1 H' o as (fun b => if b < j + 1 then (List.range (k + 1)).filter (fun c => dmP N c b) else (List.range k).filter (fun c => dmP N c b)) := fun e => tj.cong fun b hb => by
        by_cases z : b = j
        · subst z
          rw [if_neg (Nat.lt_irrefl _), if_pos (Nat.lt_succ_self _), filter_range_succ, e, if_neg (by decide), List.append_nil]
        · by_cases z2 : b < j
          · rw [if_pos z2, if_pos (by omega)]
          · rw [if_neg z2, if_neg (by omega)]
      wtm_at "gs"
      refine itnd (fun e => ?_) (fun e => ?_)
      · wtm_at "gs"
        refine ⟨d, _, rfl, hD.get _, ?_⟩
        wtm_at "gs"
        have eb : (!(F (j : Int)).isSome) = dmP N k j := by
          rw [hF]
          refine Bool.eq_iff_iff.mpr ?_
          rw [dmP_iff, Bool.not_eq_true', decide_eq_false_iff_not, hL.iff, rch_empty hr hq (by omega) (by omega)]
          exact ⟨fun h => ⟨e, h⟩, fun h => h.2⟩
        rw [eb]
        refine itb (fun e => ?_) fun e => ?_
        · wtm_at "gs"
          have ej := List.getElem?_eq_getElem hja
          refine w_ixn (v := .ref as[j]) (.l tj.o_) (by rw [List.getElem?_map, ej]; rfl) ?_
          have el := tj.ex j _ ej
          refine ⟨tyL el, ?_⟩
          wtm_at "gs"
          refine w_append el ?_ ?_
          · rw [iv_len, icast_len, if_neg (Nat.lt_irrefl _)]
            have := range_filter_len (fun c => dmP N c j) k
            omega
          refine ⟨_, rfl, tj.grow ej fun b hb => ?_, ?_⟩
          · by_cases z : b = j
            · subst z
              rw [if_pos rfl, if_neg (Nat.lt_irrefl _), if_pos (Nat.lt_succ_self _), filter_range_succ, if_pos e]
            · rw [if_neg z]
              by_cases z2 : b < j
              · rw [if_pos z2, if_pos (by omega)]
              · rw [if_neg z2, if_neg (by omega)]
          · obtain ⟨kvs, e1, e2⟩ := hD
            exact ⟨kvs, get_ne e1 (ndl _ (List.getElem_mem hja)), e2⟩
        · wtm_at "gs"
          exact ⟨_, rfl, stF e, hD⟩
      · refine iteF ?_
        wtm_at "gs"
        refine ⟨_, rfl, stF ?_, hD⟩
        cases e2 : dmP N k j with
        | false => rfl
        | true => exact absurd e (dmP_iff.mp e2).1
    · rintro σ' H' ⟨v, rfl, tj, hD⟩
      refine ⟨_, _, _, _, rfl, tj.cong fun b hb => ?_⟩
      rw [if_pos (by omega)]
  · rintro σ' H' ⟨y, z, w, v, rfl, t⟩
    wtm_at "gs"
    rw [show ((n : Int)).toNat = n by omega] at t
    exact q H' o _ (s1.trans t.s) t.o_ (t.kl hal)
/-! ### the ladder -/
/-- the new words -/
structure Wd (n : Nat) (Hp0 H : Hp) (l : Addr) (ws : List Int) : Prop where
  s : Same Hp0 H
  n_ : Hp0 l = none
  e : H l = some (.lst (iv ws))
  v : Vals' n ws
  l5 : ws.length ≤ 5
structure LaB (H0 Hf H : Hp) (A : List Addr) (n : Nat) (o : Addr) (k : Nat) (xs : List V) : Prop where
  m : Mt Hf H A n 5
  s : Same H0 Hf
  b : Bld Hf H A o xs
  l : xs.length = k
  ox : ∀ x ∈ xs, OX Hf A x
def nmNode : Nm := ⟨"node", by decide +kernel⟩
section
variable {K : PySem.W.Frag} {Hp0 H : Hp} {n k : Nat} {l o : Addr} {ws : List Int} {turn : Int} {w : Option V} {nx : L2.St → Hp → Prop} {r : VK} {b c : L2.St → Hp → Prop}
def t_la2 (K : PySem.W.Frag) : TS := (tIfS (tTest (tOp rEq (tOp rModI (tCB rIntQ (tCons (tOp rAddI (tOp rMulI (tC (.int 5)) (tVar 3)) (tVar 1)) tNil)) (tOp (rIx K) (tLst (tCons (tC (.int 9)) (tCons (tC (.int 61)) tNil))) (tOp rDivI (tCB rIntQ (tCons (tVar 1) tNil)) (tC (.int 9))))) (tC (.int 0)))) (tAsg (tSl (rSlL K) (tVar 4) tNoPart (tPart (tC (.int 1)))) (gName 4)) tNext)
theorem la2 (h : Wd n Hp0 H l ws) (h0 : 0 ≤ turn) (h1 : turn < 18) (hk : k < 1000) (q : ∀ H' l ws, Wd n Hp0 H' l ws → nx [some (.int (n : Int)), some (.int turn), some (.ref o), some (.int (k : Int)), some (.ref l), w] H') :
    t_la2 K ⟨nx, r, b, c⟩ [some (.int (n : Int)), some (.int turn), some (.ref o), some (.int (k : Int)), some (.ref l), w] H := by
  unfold t_la2
  wtm_at "gs"
  refine newL (by simp) fun t H1 nt s1 ht => ?_
  wtm_at "gs"
  obtain ⟨d, ed, hd⟩ := iv_pick (cs := [9, 61]) (i := turn / 9) (R := fun t => 0 < t) (by omega) (by show _ < (2 : Int); omega) (by simp)
  refine w_ix (.l ht) ed ?_
  wtm_at "gs"
  refine itd (fun e => ?_) (fun e => ?_)
  · wtm_at "gs"
    refine ⟨1, rfl, ?_⟩
    refine w_slL (.of (s1 _ _ h.e)) fun p H2 np s2 hp => ?_
    wtm_at "gs"
    refine q H2 p (ws.take 1) ⟨h.s.trans (s1.trans s2), h.s.free (s1.free np), ?_, fun w hw => h.v w (List.mem_of_mem_take hw), ?_⟩
    · rw [hp]
      have : cutV (iv ws) none (some 1) = (iv ws).take 1 := by
        unfold cutV
        rw [HT.sIx_none, show (some (1 : Int)) = some ((1 : Nat) : Int) from rfl, HT.sIx_nat]
        simp
      rw [this]
      unfold iv
      rw [List.map_take]
    · rw [List.length_take]
      have := h.l5
      omega
  · wtm_at "gs"
    exact q H1 l ws ⟨h.s.trans s1, h.n_, s1 _ _ h.e, h.v, h.l5⟩
def t_la3 (K : PySem.W.Frag) : TS := (tIfS (tTest (tOp rEq (tOp rModI (tCB rIntQ (tCons (tVar 1) tNil)) (tC (.int 2))) (tC (.int 1)))) (tDrop (tBM0 K "list" rReverse (tVar 4))) tNext)
theorem la3 (h : Wd n Hp0 H l ws) (q : ∀ H' ws, Wd n Hp0 H' l ws → nx [some (.int (n : Int)), some (.int turn), some (.ref o), some (.int (k : Int)), some (.ref l), w] H') :
    t_la3 K ⟨nx, r, b, c⟩ [some (.int (n : Int)), some (.int turn), some (.ref o), some (.int (k : Int)), some (.ref l), w] H := by
  unfold t_la3
  wtm_at "gs"
  refine itd (fun e => ?_) (fun e => ?_)
  · wtm_at "gs"
    refine ⟨tyL h.e, l, _, rfl, rfl, h.e, ?_⟩
    wtm_at "gs"
    refine q _ ws.reverse ⟨same_mut h.s h.n_, h.n_, ?_, fun w hw => h.v w (List.mem_reverse.mp hw), ?_⟩
    · rw [upd_same]
      unfold iv
      rw [List.map_reverse]
    · rw [List.length_reverse]
      exact h.l5
  · wtm_at "gs"
    exact q H ws h
end
theorem len__law_ladder (K : PySem.W.Frag) (vs : List V) (H : Hp) (Q : VK) (E : XK) (h : sp__law_ladder K vs H Q E) : vs.length = (["_law_many", "_law_turn"] : List Str).length := by
  obtain ⟨m, t, rfl, _⟩ := h
  rfl
theorem pure__law_ladder (K : PySem.W.Frag) (vs : List V) (H : Hp) (Q : VK) (E : XK) (h : sp__law_ladder K vs H Q E) : t__law_ladder K { nx := fun _ H' => Q .non H', rt := Q } (start ["_law_many", "_law_turn", "_law_objects", "_law_k", "_law_words_here", "_law_j"] vs) H := by
  obtain ⟨n, turn, rfl, hn2, hn, h0, h1, q⟩ := h
  show (tSeq (tAsg (tLst tNil) (gName 2))
    (tSeq (tFor (iRng1 (tCons (tVar 0) tNil)) (gName 3) (tSeq (tAsg (tLc (iSeq K (tLst (tCons (tOp rAddI (tVar 3) (tC (.int 1))) (tCons (tOp rAddI (tVar 3) (tC (.int 2))) tNil)))) (gName 5) (tTest (tOp rLtI (tVar 5) (tVar 0))) (tOp rAddI (tOp rMulI (tC (.int 2)) (tVar 5)) (tC (.int 2))) [5]) (gName 4))
    (tSeq (t_la2 K)
    (tSeq (t_la3 K)
    (tDrop (tBM K "list" rAppend (tVar 2) (tCons (tLst (tCons (tC (.str "node")) (tCons (tVar 4) tNil))) tNil)))))))
    (tRet (tCall (sp__law_numbered K) [] E0 (tCons (tLst (tCons (tLst (tCons (tC (.int 2)) (tCons (tC (.int 4)) tNil))) (tCons (tLst tNil) (tCons (tLst tNil) (tCons (tLst tNil) (tCons (tVar 2) tNil)))))) tNil))))) _ _ _
  wtm_at "gs"
  refine newL (by simp) fun o H1 no s1 ho => ?_
  have b0 : LaB H H H1 [] n o 0 [] := ⟨⟨s1, fun _ h => (by cases h), fun _ h => (by cases h)⟩, fun _ _ h => h, ⟨no, fun h => (by cases h), ho⟩, rfl, fun _ h => (by cases h)⟩
  wtm_at "gs"
  refine f_rng (by omega) (fun k σ' H' => ∃ y z w Hf A xs, σ' = [some (.int (n : Int)), some (.int turn), some (.ref o), y, z, w] ∧ LaB H Hf H' A n o k xs) ⟨_, _, _, _, _, _, rfl, b0⟩ ?_ ?_
  · rintro k σ' H' hk ⟨y, z, w, Hf, A, xs, rfl, L⟩
    wtm_at "gs"
    refine newL (by simp) fun t H2 nt s2 ht => ?_
    refine l_seq0 (K := K) (H0 := H2) (xs := iv [(k : Int) + 1, (k : Int) + 2]) (.l ht) (fun _ _ h => h) (fun D i H3 => Same H2 H3 ∧ ∃ ws, H3 D = some (.lst (iv ws)) ∧ Vals' n ws ∧ ws.length ≤ i) (fun D nD => ⟨same_new nD, [], upd_same, fun _ h => (by cases h), Nat.le_refl _⟩) (fun D i H3 nD ⟨s, _⟩ => s) ?_ ?_
    · rintro D i zz H3 nD hz ⟨s3, ws, hD, hv, hl⟩
      have hi := (List.getElem?_eq_some_iff.mp hz).1
      have hi : i < 2 := hi
      obtain ⟨j, hj, rfl⟩ := iv_at hz
      have hjk : 0 ≤ j := by
        have := List.mem_of_getElem? hj
        simp at this
        omega
      wtm_at "gs"
      refine ⟨rfl, ?_⟩
      wtm_at "gs"
      refine itd (fun e => ?_) (fun e => ?_)
      · wtm_at "gs"
        refine kept hD (by rw [iv_len]; omega) ⟨same_mut s3 nD, ws ++ [2 * j + 2], upd_same.trans (iv_snoc _ _), fun w hw => ?_, by rw [List.length_append]; show ws.length + 1 ≤ i + 1; omega⟩
        rcases List.mem_append.mp hw with hw | hw
        · exact hv w hw
        · rw [List.mem_singleton.mp hw]
          exact .inr (.inr ⟨j.toNat, by omega, by omega⟩)
      · exact ⟨s3, ws, hD, hv, by omega⟩
    rintro D H3 nD ⟨s3, ws, hD, hv, hl⟩
    have hl : ws.length ≤ 2 := hl
    wtm_at "gs"
    refine la2 (K := K) (Hp0 := H') (k := k) (turn := turn) ⟨s2.trans s3, s2.free nD, hD, hv, by omega⟩ h0 h1 (by omega) fun H4 l ws W => ?_
    wtm_at "gs"
    refine la3 (K := K) W fun H5 ws W => ?_
    have m5 := L.m.add W.s W.n_ W.e W.v W.l5
    have b5 := L.b.add W.s W.n_
    have ox5 : ∀ x ∈ xs, OX Hf (l :: A) x := fun x hx => (L.ox x hx).mono (fun _ _ h => h) fun _ => List.mem_cons_of_mem _
    wtm_at "gs"
    refine ⟨tyL b5.at_, ?_⟩
    wtm_at "gs"
    refine newL (by simp) fun u H6 nu s6 hu => ?_
    have m6 := m5.grow s6 nu hu
    have b6 := b5.grow s6 nu (u := .lst [.str "node", .ref l])
    wtm_at "gs"
    refine w_append b6.at_ (by rw [L.l]; omega) ?_
    have su : Same Hf (upd Hf u (.lst [.str "node", .ref l])) := same_new (m5.sf.free nu)
    exact ⟨_, _, _, _, _, _, rfl, ⟨m6.side b6.no b6.na, L.s.trans su, b6.put, by rw [List.length_append, L.l]; rfl, mem_snoc (fun x hx => (ox5 x hx).mono su fun _ h => h) ⟨u, nmNode, l, rfl, upd_same, List.mem_cons_self⟩⟩⟩
  · rintro σ' H' ⟨y, z, w, Hf, A, xs, rfl, L⟩
    have hln : xs.length = n := by
      have := L.l
      omega
    have m0 := L.m.freeze L.b.at_ L.b.na
    have s0 : Same Hf (upd Hf o (.lst xs)) := same_new L.b.no
    have eo : (upd Hf o (.lst xs)) o = some (.lst xs) := upd_same
    have ox0 : ∀ x ∈ xs, OX (upd Hf o (.lst xs)) A x := fun x hx => (L.ox x hx).mono s0 fun _ h => h
    replace s0 := L.s.trans s0
    generalize upd Hf o (.lst xs) = Hg at m0 s0 eo ox0
    wtm_at "gs"
    refine newL (by simp) fun p0 H2 np0 s2 hp0 => ?_
    have v24 : Vals' n [2, 4] := fun w hw => by
      rcases List.mem_cons.mp hw with z | hw
      · rw [z]
        exact .inr (.inr ⟨0, by omega, rfl⟩)
      · rw [List.mem_singleton.mp hw]
        exact .inr (.inr ⟨1, by omega, rfl⟩)
    have m1 := m0.add (ws := [2, 4]) s2 np0 hp0 v24 (by simp)
    wtm_at "gs"
    refine newL (by simp) fun p1 H3 np1 s3 hp1 => ?_
    have m2 := m1.grow s3 np1 hp1
    have s1f : Same Hg (upd Hg p1 (.lst [])) := same_new (m1.sf.free np1)
    have e1 : (upd Hg p1 (.lst [])) p1 = some (.lst []) := upd_same
    replace eo := s1f _ _ eo
    replace ox0 : ∀ x ∈ xs, OX (upd Hg p1 (.lst [])) A x := fun x hx => (ox0 x hx).mono s1f fun _ h => h
    replace s0 := s0.trans s1f
    generalize upd Hg p1 (.lst []) = Hg at m2 s0 eo ox0 e1
    wtm_at "gs"
    refine newL (by simp) fun p2 H4 np2 s4 hp2 => ?_
    have m3 := m2.add (ws := []) s4 np2 hp2 (fun _ h => (by cases h)) (by simp)
    wtm_at "gs"
    refine newL (by simp) fun p3 H5 np3 s5 hp3 => ?_
    have m4 := m3.add (ws := []) s5 np3 hp3 (fun _ h => (by cases h)) (by simp)
    wtm_at "gs"
    refine newL (by simp) fun x H6 nx s6 hx => ?_
    have m5 := m4.grow s6 nx hx
    have s2f : Same Hg (upd Hg x (.lst [.ref p0, .ref p1, .ref p2, .ref p3, .ref o])) := same_new (m4.sf.free nx)
    have e2 : (upd Hg x (.lst [.ref p0, .ref p1, .ref p2, .ref p3, .ref o])) x = some (.lst [.ref p0, .ref p1, .ref p2, .ref p3, .ref o]) := upd_same
    have S : Skel (upd Hg x (.lst [.ref p0, .ref p1, .ref p2, .ref p3, .ref o])) (.ref x) (p3 :: p2 :: p0 :: A) n 0 :=
      ⟨x, p0, p1, p2, p3, o, [], xs, rfl, e2, List.mem_cons_of_mem _ (List.mem_cons_of_mem _ List.mem_cons_self), List.mem_cons_of_mem _ List.mem_cons_self, List.mem_cons_self, s2f _ _ e1, fun _ h => (by cases h), s2f _ _ eo, hln, Nat.le_refl _, fun y hy => (ox0 y hy).mono s2f fun _ h => List.mem_cons_of_mem _ (List.mem_cons_of_mem _ (List.mem_cons_of_mem _ h))⟩
    obtain ⟨P, hP, VP⟩ := skel_pic (K := K) m5 S (by omega)
    wtm_at "gs"
    exact ⟨.ref x, P, n, 5, rfl, hP, VP, by omega, by omega, fun H7 y N s7 hN hNum => q H7 y P N (s0.trans (s2f.trans (m5.sf.trans s7))) hN (VP.more (by omega)) hNum⟩
/-! ### the law -/
/-- a picture that is numbered: all its objects are reached -/
structure Good (n : Nat) (N : Pic) : Prop where
  v : VPic n 8000 N
  r : ∀ k : Nat, k < n → Rch nobar N.rows N.pays (k : Int)
theorem good_of {n : Nat} {P N : Pic} (VP : VPic n 8000 P) (h : Numbered P N) : ∃ m, m ≤ n ∧ Good m N := by
  obtain ⟨h1, h2, h3⟩ := numbered_v VP h
  exact ⟨_, h2, h1, h3⟩
section
variable {K : PySem.W.Frag} {H : Hp} {n : Nat} {N : Pic} {p : Addr} {x : V} {Q : VK}
theorem c_keep (hp : PicT K (PC K) H p N) (g : Good n N) (hn : n ≤ 1000) (q : ∀ H' t ys, Same H H' → SqT K H' t ys → KeepT n (dmP N) ys → Q (.ref t) H') : sp_keepers K [.ref p] H Q E0 := ⟨p, N, n, 8000, rfl, hp, g.v, hn, by omega, q⟩
theorem c_kept (hx : RPn K H x N) (g : Good n N) (hn : n ≤ 1000) (q : ∀ H' l xs, Same H H' → H' l = some (.lst xs) → KL H' xs (dset n (dmP N)) n → Q (.ref l) H') : sp__law_kept_by K [x] H Q E0 := ⟨x, N, n, 8000, rfl, hx, g.v, hn, by omega, q⟩
theorem c_made {b : Bool} (pf : PFacts K (PC K)) (hx : RPn K H x N) (g : Good n N) (hn : n ≤ 1000) (q : ∀ H' p, Same H H' → PicT K (PC K) H' p N → Q (.ref p) H') : sp__law_made K [x, .bl b] H Q E0 := ⟨x, N, b, n, 8000, pf, rfl, hx, g.v, hn, by omega, q⟩
theorem c_right {t l : Addr} {ys xs : List V} (ht : SqT K H t ys) (hk : KeepT n (dmP N) ys) (hl : H l = some (.lst xs)) (hx : KL H xs (dset n (dmP N)) n) (g : Good n N) (hn : n ≤ 1000) (q : ∀ H', Same H H' → Q (.bl true) H') : sp__law_right K [.ref t, .ref l] H Q E0 :=
  ⟨t, l, ys, xs, n, dmP N, rfl, ht, hk, hl, hx, ordP g.r, hn, q⟩
theorem KL.same {H H' : Hp} {xs : List V} {f : Nat → List Nat} {n : Nat} (h : KL H xs f n) (s : Same H H') : KL H' xs f n := ⟨h.1, fun b hb => by
  obtain ⟨l, e1, e2⟩ := h.2 b hb
  exact ⟨l, e1, s _ _ e2⟩⟩
end
section
variable {K : PySem.W.Frag} {H : Hp} {nx : L2.St → Hp → Prop} {r : VK} {b c : L2.St → Hp → Prop}
def t_lw4 (K : PySem.W.Frag) : TS := (tIfS (tTest (tOp rEq (tOp (rIx K) (tVar 3) (tC (.int 2))) (tC (.int 0)))) (tSeq (tAsg (tCall (sp__law_ladder K) [] E0 (tCons (tOp rAddI (tC (.int 60)) (tOp (rIx K) (tVar 3) (tC (.int 3)))) (tCons (tOp (rIx K) (tVar 3) (tC (.int 4))) tNil))) (gName 4)) (tIfS (tNot (tB (tCall (sp__law_right K) [] E0 (tCons (tCall (sp_keepers K) [] E0 (tCons (tCall (sp__law_made K) [] E0 (tCons (tVar 4) (tCons (tC (.bl true)) tNil))) tNil)) (tCons (tCall (sp__law_kept_by K) [] E0 (tCons (tVar 4) tNil)) tNil))))) (tRet (tC (.bl false))) tNext)) tNext)
theorem lw4 {x0 x1 x2 x4 x5 x6 x7 x8 : Option V} {m : Addr} {d0 d1 d2 d3 d4 : Int} (pf : PFacts K (PC K)) (hm : H m = some (.lst (iv [d0, d1, d2, d3, d4]))) (g3 : 0 ≤ d3) (g3' : d3 < 100) (g4 : 0 ≤ d4) (g4' : d4 < 18)
    (q : ∀ H' y, Same H H' → nx [x0, x1, x2, some (.ref m), y, x5, x6, x7, x8] H') : t_lw4 K ⟨nx, r, b, c⟩ [x0, x1, x2, some (.ref m), x4, x5, x6, x7, x8] H := by
  unfold t_lw4
  wtm_at "gs"
  refine w_ixn (k := 2) (.l hm) rfl ?_
  wtm_at "gs"
  refine itd (fun e => ?_) (fun e => ?_)
  · wtm_at "gs"
    refine w_ixn (k := 3) (.l hm) rfl ?_
    wtm_at "gs"
    refine w_ixn (k := 4) (.l hm) rfl ?_
    wtm_at "gs"
    obtain ⟨mn, rfl⟩ := nat_of g3
    refine ⟨60 + mn, d4, by rw [Int.natCast_add]; rfl, by omega, by omega, g4, g4', fun H1 y P N s1 hN VP hNum => ?_⟩
    obtain ⟨n, hn, g⟩ := good_of (VP.more (Nat.le_refl _)) hNum
    have hn1 : n ≤ 1000 := by omega
    wtm_at "gs"
    refine c_made pf hN g hn1 fun H2 p s2 hp => ?_
    wtm_at "gs"
    refine c_keep hp g hn1 fun H3 t ys s3 ht hk => ?_
    wtm_at "gs"
    refine c_kept (hN.same (s2.trans s3)) g hn1 fun H4 l xs s4 hl hx => ?_
    wtm_at "gs"
    refine c_right (sqt_same s4 ht) hk hl hx g hn1 fun H5 s5 => ?_
    wtm_at "gs"
    refine iteF ?_
    wtm_at "gs"
    exact q _ _ (s1.trans (s2.trans (s3.trans (s4.trans s5))))
  · wtm_at "gs"
    exact q _ _ fun _ _ h => h
end
theorem len_law (K : PySem.W.Frag) (vs : List V) (H : Hp) (Q : VK) (E : XK) (h : sp_law K vs H Q E) : vs.length = (["_law_script"] : List Str).length := by
  obtain ⟨a, ns, _, rfl, _⟩ := h
  rfl
theorem pure_law (K : PySem.W.Frag) (vs : List V) (H : Hp) (Q : VK) (E : XK) (h : sp_law K vs H Q E) : t_law K { nx := fun _ H' => Q .non H', rt := Q } (start ["_law_script", "_law_parts", "_law_other", "_law_mode", "_law_tall", "_law_one", "_law_two", "_law_kept", "_law_second"] vs) H := by
  obtain ⟨a, ns, pf, rfl, ha, q⟩ := h
  show (tSeq (tAsg (tCall (sp__law_drawn K) [] E0 (tCons (tVar 0) (tCons (tC (.int 0)) tNil))) (gName 1)) (tSeq (tAsg (tCall (sp__law_mirrored K) [] E0 (tCons (tVar 1) tNil)) (gName 2)) (tSeq (tAsg (tCall (sp__law_digits K) [] E0 (tCons (tCall (sp__law_cell K) [] E0 (tCons (tVar 0) (tCons (tC (.int 40)) tNil))) (tCons (tLst (tCons (tC (.int 2)) (tCons (tC (.int 2)) (tCons (tC (.int 32)) (tCons (tC (.int 100)) (tCons (tC (.int 18)) tNil)))))) tNil))) (gName 3)) (tSeq (t_lw4 K) (tSeq (tAsg (tCall (sp__law_made K) [] E0 (tCons (tVar 1) (tCons (tOp rEq (tOp (rIx K) (tVar 3) (tC (.int 0))) (tC (.int 0))) tNil))) (gName 5)) (tSeq (tAsg (tCall (sp__law_made K) [] E0 (tCons (tVar 2) (tCons (tOp rEq (tOp (rIx K) (tVar 3) (tC (.int 1))) (tC (.int 0))) tNil))) (gName 6)) (tSeq (tAsg (tCall (sp__law_kept_by K) [] E0 (tCons (tVar 1) tNil)) (gName 7)) (tSeq (tAsg (tCall (sp__law_kept_by K) [] E0 (tCons (tVar 2) tNil)) (gName 8)) (tSeq (tIfS (tOr (tNot (tB (tCall (sp__law_right K) [] E0 (tCons (tCall (sp_keepers K) [] E0 (tCons (tVar 5) tNil)) (tCons (tVar 7) tNil))))) (tNot (tB (tCall (sp__law_right K) [] E0 (tCons (tCallKw (sp_keepers K) (fun zs => match zs with | [a0] => [a0] | _ => zs) 1 E0 (tCons (tVar 6) tNil)) (tCons (tVar 8) tNil)))))) (tRet (tC (.bl false))) tNext) (tSeq (tIfS (tNot (tB (tCall (sp__law_right K) [] E0 (tCons (tCall (sp_keepers K) [] E0 (tCons (tVar 5) tNil)) (tCons (tVar 7) tNil))))) (tRet (tC (.bl false))) tNext) (tRet (tAndV (tCall (sp__law_stays K) [] E0 (tCons (tVar 5) (tCons (tVar 1) tNil))) (tCall (sp__law_stays K) [] E0 (tCons (tVar 6) (tCons (tVar 2) tNil))))))))))))))) _ _ _
  wtm_at "gs"
  refine ⟨a, ns, rfl, ha, fun H1 x N s1 hN ⟨P, VP, hP, hNum⟩ => ?_⟩
  obtain ⟨n, hn, g⟩ := good_of VP hNum
  have hn1 : n ≤ 1000 := by omega
  wtm_at "gs"
  refine ⟨x, N, n, 8000, rfl, hN, g.v, hn1, by omega, fun H2 y P2 N2 s2 VP2 hN2 hNum2 => ?_⟩
  obtain ⟨m, hm, g2⟩ := good_of VP2 hNum2
  have hm1 : m ≤ 1000 := by omega
  have hN1 := hN.same s2
  wtm_at "gs"
  refine ⟨a, ns, _, rfl, sql_same (s1.trans s2) ha, by decide, by decide, fun z => ?_⟩
  wtm_at "gs"
  refine newL (by simp) fun t1 H3 nt1 s3 ht1 => ?_
  wtm_at "gs"
  refine cell_digits (ss := [2, 2, 32, 100, 18]) ht1 (by decide) (by decide) (fun H4 md ds s4 nmd hmd hd => ?_) z
  obtain ⟨d0, ds, rfl, _, _, hd⟩ := dcons hd
  obtain ⟨d1, ds, rfl, _, _, hd⟩ := dcons hd
  obtain ⟨d2, ds, rfl, _, _, hd⟩ := dcons hd
  obtain ⟨d3, ds, rfl, g3, g3', hd⟩ := dcons hd
  obtain ⟨d4, ds, rfl, g4, g4', hd⟩ := dcons hd
  obtain rfl := dnil hd
  wtm_at "gs"
  refine lw4 (K := K) pf hmd g3 g3' g4 g4' fun H5 y5 s5 => ?_
  have hmd5 := s5 _ _ hmd
  have s25 := s3.trans (s4.trans s5)
  have hNa := hN1.same s25
  have hNb := hN2.same s25
  have s05 := s1.trans (s2.trans s25)
  wtm_at "gs"
  refine w_ixn (k := 0) (.l hmd5) rfl ?_
  wtm_at "gs"
  refine c_made pf hNa g hn1 fun H6 p1 s6 hp1 => ?_
  wtm_at "gs"
  refine w_ixn (k := 1) (.l (s6 _ _ hmd5)) rfl ?_
  wtm_at "gs"
  refine c_made pf (hNb.same s6) g2 hm1 fun H7 p2 s7 hp2 => ?_
  wtm_at "gs"
  refine c_kept (hNa.same (s6.trans s7)) g hn1 fun H8 l1 xs1 s8 hl1 hx1 => ?_
  wtm_at "gs"
  refine c_kept (hNb.same (s6.trans (s7.trans s8))) g2 hm1 fun H9 l2 xs2 s9 hl2 hx2 => ?_
  have hp1' := hp1.same (s7.trans (s8.trans s9))
  have hp2' := hp2.same (s8.trans s9)
  wtm_at "gs"
  refine c_keep hp1' g hn1 fun H10 t1 ys1 s10 ht1 hk1 => ?_
  wtm_at "gs"
  refine c_right ht1 hk1 ((s9.trans s10) _ _ hl1) (hx1.same (s9.trans s10)) g hn1 fun H11 s11 => ?_
  wtm_at "gs"
  refine iteF ?_
  wtm_at "gs"
  refine ⟨rfl, ?_⟩
  refine c_keep (hp2'.same (s10.trans s11)) g2 hm1 fun H12 t2 ys2 s12 ht2 hk2 => ?_
  wtm_at "gs"
  have s912 := s10.trans (s11.trans s12)
  refine c_right ht2 hk2 (s912 _ _ hl2) (hx2.same s912) g2 hm1 fun H13 s13 => ?_
  wtm_at "gs"
  refine iteF ?_
  wtm_at "gs"
  have s913 := s912.trans s13
  refine c_keep (hp1'.same s913) g hn1 fun H14 t3 ys3 s14 ht3 hk3 => ?_
  wtm_at "gs"
  have s814 := s9.trans (s913.trans s14)
  refine c_right ht3 hk3 (s814 _ _ hl1) (hx1.same s814) g hn1 fun H15 s15 => ?_
  wtm_at "gs"
  refine iteF ?_
  wtm_at "gs"
  have s915 := s913.trans (s14.trans s15)
  have s515 := s6.trans (s7.trans (s8.trans (s9.trans s915)))
  refine ⟨p1, x, N, rfl, hp1'.same s915, hNa.same s515, ?_⟩
  wtm_at "gs"
  refine ⟨p2, y, N2, rfl, hp2'.same s915, hNb.same s515, ?_⟩
  exact q H15 (s05.trans s515)
end Gr
namespace K96
open PySem PySem.Spec PyProof.Rows L2 G Gr
def top (i : Nat) : Stmt := PySem.Challenge.pw_quietbroom_k96_keepers_whole.main.body.getD i (.Pass ⟨0, 0, 0, 0⟩)
abbrev s_is_reference : Stmt := top 2
abbrev s_address_of : Stmt := top 3
abbrev s_target_at : Stmt := top 5
abbrev s_targets : Stmt := top 7
abbrev s_reached_without : Stmt := top 8
abbrev s_meet : Stmt := top 9
abbrev s_kept_sets : Stmt := top 10
abbrev s_keepers : Stmt := top 11
abbrev s__law_whole : Stmt := top 15
abbrev s__law_cell : Stmt := top 16
abbrev s__law_digits : Stmt := top 17
abbrev s__law_held : Stmt := top 18
abbrev s__law_turned : Stmt := top 19
abbrev s__law_turned_row : Stmt := top 20
abbrev s__law_words : Stmt := top 21
abbrev s__law_root_rows : Stmt := top 22
abbrev s__law_numbered : Stmt := top 23
abbrev s__law_linked : Stmt := top 24
abbrev s__law_padded : Stmt := top 25
abbrev s__law_drawn : Stmt := top 26
abbrev s__law_mirrored : Stmt := top 27
abbrev s__law_made : Stmt := top 28
abbrev s__law_stays : Stmt := top 29
abbrev s__law_ladder : Stmt := top 30
abbrev s__law_kept_by : Stmt := top 31
abbrev s__law_right : Stmt := top 32
abbrev s_law : Stmt := top 33
abbrev s_Picture___init__ : Stmt := inClass (top 13) 0
abbrev s_Picture_rows : Stmt := inClass (top 13) 1
abbrev s_Picture___eq__ : Stmt := inClass (top 13) 2
abbrev FnP (K : PySem.W.Frag) (x qual : Str) (st : Stmt) (f : Addr) (fd : FuncData) : Prop := FunD K x qual (defArgs st) (defBody st) (defScope st) [] [] f fd
def d_is_reference : He.DefD := ⟨("is_reference", none), "is_reference", "is_reference", defArgs s_is_reference, defBody s_is_reference, defScope s_is_reference, [], []⟩
def d_address_of : He.DefD := ⟨("address_of", none), "address_of", "address_of", defArgs s_address_of, defBody s_address_of, defScope s_address_of, [], []⟩
def d_target_at : He.DefD := ⟨("target_at", none), "target_at", "target_at", defArgs s_target_at, defBody s_target_at, defScope s_target_at, [], []⟩
def d_targets : He.DefD := ⟨("targets", none), "targets", "targets", defArgs s_targets, defBody s_targets, defScope s_targets, [], []⟩
def d_reached_without : He.DefD := ⟨("reached_without", none), "reached_without", "reached_without", defArgs s_reached_without, defBody s_reached_without, defScope s_reached_without, [], []⟩
def d_meet : He.DefD := ⟨("meet", none), "meet", "meet", defArgs s_meet, defBody s_meet, defScope s_meet, [], []⟩
def d_kept_sets : He.DefD := ⟨("kept_sets", none), "kept_sets", "kept_sets", defArgs s_kept_sets, defBody s_kept_sets, defScope s_kept_sets, [], []⟩
def d_keepers : He.DefD := ⟨("keepers", none), "keepers", "keepers", defArgs s_keepers, defBody s_keepers, defScope s_keepers, [], []⟩
def d__law_whole : He.DefD := ⟨("_law_whole", none), "_law_whole", "_law_whole", defArgs s__law_whole, defBody s__law_whole, defScope s__law_whole, [], []⟩
def d__law_cell : He.DefD := ⟨("_law_cell", none), "_law_cell", "_law_cell", defArgs s__law_cell, defBody s__law_cell, defScope s__law_cell, [], []⟩
def d__law_digits : He.DefD := ⟨("_law_digits", none), "_law_digits", "_law_digits", defArgs s__law_digits, defBody s__law_digits, defScope s__law_digits, [], []⟩
def d__law_held : He.DefD := ⟨("_law_held", none), "_law_held", "_law_held", defArgs s__law_held, defBody s__law_held, defScope s__law_held, [], []⟩
def d__law_turned : He.DefD := ⟨("_law_turned", none), "_law_turned", "_law_turned", defArgs s__law_turned, defBody s__law_turned, defScope s__law_turned, [], []⟩
def d__law_turned_row : He.DefD := ⟨("_law_turned_row", none), "_law_turned_row", "_law_turned_row", defArgs s__law_turned_row, defBody s__law_turned_row, defScope s__law_turned_row, [], []⟩
def d__law_words : He.DefD := ⟨("_law_words", none), "_law_words", "_law_words", defArgs s__law_words, defBody s__law_words, defScope s__law_words, [], []⟩
def d__law_root_rows : He.DefD := ⟨("_law_root_rows", none), "_law_root_rows", "_law_root_rows", defArgs s__law_root_rows, defBody s__law_root_rows, defScope s__law_root_rows, [], []⟩
def d__law_numbered : He.DefD := ⟨("_law_numbered", none), "_law_numbered", "_law_numbered", defArgs s__law_numbered, defBody s__law_numbered, defScope s__law_numbered, [], []⟩
def d__law_linked : He.DefD := ⟨("_law_linked", none), "_law_linked", "_law_linked", defArgs s__law_linked, defBody s__law_linked, defScope s__law_linked, [], []⟩
def d__law_padded : He.DefD := ⟨("_law_padded", none), "_law_padded", "_law_padded", defArgs s__law_padded, defBody s__law_padded, defScope s__law_padded, [], []⟩
def d__law_drawn : He.DefD := ⟨("_law_drawn", none), "_law_drawn", "_law_drawn", defArgs s__law_drawn, defBody s__law_drawn, defScope s__law_drawn, [], []⟩
def d__law_mirrored : He.DefD := ⟨("_law_mirrored", none), "_law_mirrored", "_law_mirrored", defArgs s__law_mirrored, defBody s__law_mirrored, defScope s__law_mirrored, [], []⟩
def d__law_made : He.DefD := ⟨("_law_made", none), "_law_made", "_law_made", defArgs s__law_made, defBody s__law_made, defScope s__law_made, [], []⟩
def d__law_stays : He.DefD := ⟨("_law_stays", none), "_law_stays", "_law_stays", defArgs s__law_stays, defBody s__law_stays, defScope s__law_stays, [], []⟩
def d__law_ladder : He.DefD := ⟨("_law_ladder", none), "_law_ladder", "_law_ladder", defArgs s__law_ladder, defBody s__law_ladder, defScope s__law_ladder, [], []⟩
def d__law_kept_by : He.DefD := ⟨("_law_kept_by", none), "_law_kept_by", "_law_kept_by", defArgs s__law_kept_by, defBody s__law_kept_by, defScope s__law_kept_by, [], []⟩
def d__law_right : He.DefD := ⟨("_law_right", none), "_law_right", "_law_right", defArgs s__law_right, defBody s__law_right, defScope s__law_right, [], []⟩
def d_law : He.DefD := ⟨("law", none), "law", "law", defArgs s_law, defBody s_law, defScope s_law, [], []⟩
def d_Picture___init__ : He.DefD := ⟨("Picture", some "__init__"), "__init__", "Picture.__init__", defArgs s_Picture___init__, defBody s_Picture___init__, defScope s_Picture___init__, [], []⟩
def d_Picture_rows : He.DefD := ⟨("Picture", some "rows"), "rows", "Picture.rows", defArgs s_Picture_rows, defBody s_Picture_rows, defScope s_Picture_rows, [], []⟩
def d_Picture___eq__ : He.DefD := ⟨("Picture", some "__eq__"), "__eq__", "Picture.__eq__", defArgs s_Picture___eq__, defBody s_Picture___eq__, defScope s_Picture___eq__, [], []⟩
def fn : List He.DefD := [d_is_reference, d_address_of, d_target_at, d_targets, d_reached_without, d_meet, d_kept_sets, d_keepers, d__law_whole, d__law_cell, d__law_digits, d__law_held, d__law_turned, d__law_turned_row, d__law_words, d__law_root_rows, d__law_numbered, d__law_linked, d__law_padded, d__law_drawn, d__law_mirrored, d__law_made, d__law_stays, d__law_ladder, d__law_kept_by, d__law_right, d_law, d_Picture___init__, d_Picture_rows, d_Picture___eq__]
def fa : List He.Fa := [.glo "is_reference", .glo "address_of", .glo "target_at", .glo "targets", .glo "reached_without", .glo "meet", .glo "kept_sets", .glo "keepers", .glo "_law_whole", .glo "_law_cell", .glo "_law_digits", .glo "_law_held", .glo "_law_turned", .glo "_law_turned_row", .glo "_law_words", .glo "_law_root_rows", .glo "_law_numbered", .glo "_law_linked", .glo "_law_padded", .glo "_law_drawn", .glo "_law_mirrored", .glo "_law_made", .glo "_law_stays", .glo "_law_ladder", .glo "_law_kept_by", .glo "_law_right", .glo "law", .glo "Picture", .int "NIL" 0, .free "range", .free "tuple", .free "int", .free "len", .free "isinstance", .free "min", .free "list", .free "bool", .free "max", .cls "Picture", .noat "Picture" "statics", .noat "Picture" "frames", .noat "Picture" "watched", .noat "Picture" "parted", .noat "Picture" "objects", .meth "Picture" "rows", .meth "Picture" "__eq__", .mkr "Picture"]
abbrev R : PySem.W.OpenRow := PySem.W.OpenLaw.row PySem.Challenge.rw_quietbroom_k96_keepers_whole
abbrev hk : PySem.W.Hook := He.hookD 4 fa fn
def ob (s : PySem.W.SharedT) : He.AlD := He.obsDG 4 fa fn (HandSHeadRun.getT s)
theorem ob_eq (s : PySem.W.SharedT) : ob s = hk.obs s.abs := He.obsDG_eq (HandSHeadRun.getT_eq s)
def loose0 : List PySem.Str := ["is_reference", "address_of", "target_at", "targets", "reached_without", "meet", "kept_sets", "keepers", "_law_whole", "_law_cell", "_law_digits", "_law_held", "_law_turned", "_law_turned_row", "_law_words", "_law_root_rows", "_law_numbered", "_law_linked", "_law_padded", "_law_drawn", "_law_mirrored", "_law_made", "_law_stays", "_law_ladder", "_law_kept_by", "_law_right", "Picture", "NIL"]
abbrev loose : List PySem.Str := loose0
theorem run (w : World) : HandSHeadRun.RunEq R (PySem.W.view R.prog [33]) hk ob 6000 loose w := by
  intro os
  kernel_rfl
structure Tx (K : PySem.W.Frag) (mg : Str → Option Value) : Prop where
  says : He.SaysD fa fn K
  ex : ∃ h : Heap, K.In h ∧ h.Ns mainGlobals mg
section
variable {K : PySem.W.Frag} {mg : Str → Option Value}
theorem Tx.g_is_reference (T : Tx K mg) : mg "is_reference" = some (.ref (He.ga K "is_reference")) := by obtain ⟨h, X, G⟩ := T.ex; exact He.glo_ok X G (T.says.fact 0 (f := .glo "is_reference") rfl)
theorem Tx.g_address_of (T : Tx K mg) : mg "address_of" = some (.ref (He.ga K "address_of")) := by obtain ⟨h, X, G⟩ := T.ex; exact He.glo_ok X G (T.says.fact 1 (f := .glo "address_of") rfl)
theorem Tx.g_target_at (T : Tx K mg) : mg "target_at" = some (.ref (He.ga K "target_at")) := by obtain ⟨h, X, G⟩ := T.ex; exact He.glo_ok X G (T.says.fact 2 (f := .glo "target_at") rfl)
theorem Tx.g_targets (T : Tx K mg) : mg "targets" = some (.ref (He.ga K "targets")) := by obtain ⟨h, X, G⟩ := T.ex; exact He.glo_ok X G (T.says.fact 3 (f := .glo "targets") rfl)
theorem Tx.g_reached_without (T : Tx K mg) : mg "reached_without" = some (.ref (He.ga K "reached_without")) := by obtain ⟨h, X, G⟩ := T.ex; exact He.glo_ok X G (T.says.fact 4 (f := .glo "reached_without") rfl)
theorem Tx.g_meet (T : Tx K mg) : mg "meet" = some (.ref (He.ga K "meet")) := by obtain ⟨h, X, G⟩ := T.ex; exact He.glo_ok X G (T.says.fact 5 (f := .glo "meet") rfl)
theorem Tx.g_kept_sets (T : Tx K mg) : mg "kept_sets" = some (.ref (He.ga K "kept_sets")) := by obtain ⟨h, X, G⟩ := T.ex; exact He.glo_ok X G (T.says.fact 6 (f := .glo "kept_sets") rfl)
theorem Tx.g_keepers (T : Tx K mg) : mg "keepers" = some (.ref (He.ga K "keepers")) := by obtain ⟨h, X, G⟩ := T.ex; exact He.glo_ok X G (T.says.fact 7 (f := .glo "keepers") rfl)
theorem Tx.g__law_whole (T : Tx K mg) : mg "_law_whole" = some (.ref (He.ga K "_law_whole")) := by obtain ⟨h, X, G⟩ := T.ex; exact He.glo_ok X G (T.says.fact 8 (f := .glo "_law_whole") rfl)
theorem Tx.g__law_cell (T : Tx K mg) : mg "_law_cell" = some (.ref (He.ga K "_law_cell")) := by obtain ⟨h, X, G⟩ := T.ex; exact He.glo_ok X G (T.says.fact 9 (f := .glo "_law_cell") rfl)
theorem Tx.g__law_digits (T : Tx K mg) : mg "_law_digits" = some (.ref (He.ga K "_law_digits")) := by obtain ⟨h, X, G⟩ := T.ex; exact He.glo_ok X G (T.says.fact 10 (f := .glo "_law_digits") rfl)
theorem Tx.g__law_held (T : Tx K mg) : mg "_law_held" = some (.ref (He.ga K "_law_held")) := by obtain ⟨h, X, G⟩ := T.ex; exact He.glo_ok X G (T.says.fact 11 (f := .glo "_law_held") rfl)
theorem Tx.g__law_turned (T : Tx K mg) : mg "_law_turned" = some (.ref (He.ga K "_law_turned")) := by obtain ⟨h, X, G⟩ := T.ex; exact He.glo_ok X G (T.says.fact 12 (f := .glo "_law_turned") rfl)
theorem Tx.g__law_turned_row (T : Tx K mg) : mg "_law_turned_row" = some (.ref (He.ga K "_law_turned_row")) := by obtain ⟨h, X, G⟩ := T.ex; exact He.glo_ok X G (T.says.fact 13 (f := .glo "_law_turned_row") rfl)
theorem Tx.g__law_words (T : Tx K mg) : mg "_law_words" = some (.ref (He.ga K "_law_words")) := by obtain ⟨h, X, G⟩ := T.ex; exact He.glo_ok X G (T.says.fact 14 (f := .glo "_law_words") rfl)
theorem Tx.g__law_root_rows (T : Tx K mg) : mg "_law_root_rows" = some (.ref (He.ga K "_law_root_rows")) := by obtain ⟨h, X, G⟩ := T.ex; exact He.glo_ok X G (T.says.fact 15 (f := .glo "_law_root_rows") rfl)
theorem Tx.g__law_numbered (T : Tx K mg) : mg "_law_numbered" = some (.ref (He.ga K "_law_numbered")) := by obtain ⟨h, X, G⟩ := T.ex; exact He.glo_ok X G (T.says.fact 16 (f := .glo "_law_numbered") rfl)
theorem Tx.g__law_linked (T : Tx K mg) : mg "_law_linked" = some (.ref (He.ga K "_law_linked")) := by obtain ⟨h, X, G⟩ := T.ex; exact He.glo_ok X G (T.says.fact 17 (f := .glo "_law_linked") rfl)
theorem Tx.g__law_padded (T : Tx K mg) : mg "_law_padded" = some (.ref (He.ga K "_law_padded")) := by obtain ⟨h, X, G⟩ := T.ex; exact He.glo_ok X G (T.says.fact 18 (f := .glo "_law_padded") rfl)
theorem Tx.g__law_drawn (T : Tx K mg) : mg "_law_drawn" = some (.ref (He.ga K "_law_drawn")) := by obtain ⟨h, X, G⟩ := T.ex; exact He.glo_ok X G (T.says.fact 19 (f := .glo "_law_drawn") rfl)
theorem Tx.g__law_mirrored (T : Tx K mg) : mg "_law_mirrored" = some (.ref (He.ga K "_law_mirrored")) := by obtain ⟨h, X, G⟩ := T.ex; exact He.glo_ok X G (T.says.fact 20 (f := .glo "_law_mirrored") rfl)
theorem Tx.g__law_made (T : Tx K mg) : mg "_law_made" = some (.ref (He.ga K "_law_made")) := by obtain ⟨h, X, G⟩ := T.ex; exact He.glo_ok X G (T.says.fact 21 (f := .glo "_law_made") rfl)
theorem Tx.g__law_stays (T : Tx K mg) : mg "_law_stays" = some (.ref (He.ga K "_law_stays")) := by obtain ⟨h, X, G⟩ := T.ex; exact He.glo_ok X G (T.says.fact 22 (f := .glo "_law_stays") rfl)
theorem Tx.g__law_ladder (T : Tx K mg) : mg "_law_ladder" = some (.ref (He.ga K "_law_ladder")) := by obtain ⟨h, X, G⟩ := T.ex; exact He.glo_ok X G (T.says.fact 23 (f := .glo "_law_ladder") rfl)
theorem Tx.g__law_kept_by (T : Tx K mg) : mg "_law_kept_by" = some (.ref (He.ga K "_law_kept_by")) := by obtain ⟨h, X, G⟩ := T.ex; exact He.glo_ok X G (T.says.fact 24 (f := .glo "_law_kept_by") rfl)
theorem Tx.g__law_right (T : Tx K mg) : mg "_law_right" = some (.ref (He.ga K "_law_right")) := by obtain ⟨h, X, G⟩ := T.ex; exact He.glo_ok X G (T.says.fact 25 (f := .glo "_law_right") rfl)
theorem Tx.g_law (T : Tx K mg) : mg "law" = some (.ref (He.ga K "law")) := by obtain ⟨h, X, G⟩ := T.ex; exact He.glo_ok X G (T.says.fact 26 (f := .glo "law") rfl)
theorem Tx.g_Picture (T : Tx K mg) : mg "Picture" = some (.ref (He.ga K "Picture")) := by obtain ⟨h, X, G⟩ := T.ex; exact He.glo_ok X G (T.says.fact 27 (f := .glo "Picture") rfl)
theorem Tx.i_NIL (T : Tx K mg) : ∃ t, mg "NIL" = some (.int 0 t) := by obtain ⟨h, X, G⟩ := T.ex; exact He.int_ok X G (T.says.fact 28 (f := .int "NIL" 0) rfl)
theorem Tx.b_range (T : Tx K mg) : mg "range" = none := by obtain ⟨h, X, G⟩ := T.ex; exact He.free_ok X G (T.says.fact 29 (f := .free "range") rfl)
theorem Tx.b_tuple (T : Tx K mg) : mg "tuple" = none := by obtain ⟨h, X, G⟩ := T.ex; exact He.free_ok X G (T.says.fact 30 (f := .free "tuple") rfl)
theorem Tx.b_int (T : Tx K mg) : mg "int" = none := by obtain ⟨h, X, G⟩ := T.ex; exact He.free_ok X G (T.says.fact 31 (f := .free "int") rfl)
theorem Tx.b_len (T : Tx K mg) : mg "len" = none := by obtain ⟨h, X, G⟩ := T.ex; exact He.free_ok X G (T.says.fact 32 (f := .free "len") rfl)
theorem Tx.b_isinstance (T : Tx K mg) : mg "isinstance" = none := by obtain ⟨h, X, G⟩ := T.ex; exact He.free_ok X G (T.says.fact 33 (f := .free "isinstance") rfl)
theorem Tx.b_min (T : Tx K mg) : mg "min" = none := by obtain ⟨h, X, G⟩ := T.ex; exact He.free_ok X G (T.says.fact 34 (f := .free "min") rfl)
theorem Tx.b_list (T : Tx K mg) : mg "list" = none := by obtain ⟨h, X, G⟩ := T.ex; exact He.free_ok X G (T.says.fact 35 (f := .free "list") rfl)
theorem Tx.b_bool (T : Tx K mg) : mg "bool" = none := by obtain ⟨h, X, G⟩ := T.ex; exact He.free_ok X G (T.says.fact 36 (f := .free "bool") rfl)
theorem Tx.b_max (T : Tx K mg) : mg "max" = none := by obtain ⟨h, X, G⟩ := T.ex; exact He.free_ok X G (T.says.fact 37 (f := .free "max") rfl)
theorem Tx.c_Picture (T : Tx K mg) : Cls K (He.ga K "Picture") := He.cls_ok (T.says.fact 38 (f := .cls "Picture") rfl)
theorem Tx.n_Picture_statics (T : Tx K mg) : NoAttr K (He.ga K "Picture") "statics" := He.noat_ok (T.says.fact 39 (f := .noat "Picture" "statics") rfl)
theorem Tx.n_Picture_frames (T : Tx K mg) : NoAttr K (He.ga K "Picture") "frames" := He.noat_ok (T.says.fact 40 (f := .noat "Picture" "frames") rfl)
theorem Tx.n_Picture_watched (T : Tx K mg) : NoAttr K (He.ga K "Picture") "watched" := He.noat_ok (T.says.fact 41 (f := .noat "Picture" "watched") rfl)
theorem Tx.n_Picture_parted (T : Tx K mg) : NoAttr K (He.ga K "Picture") "parted" := He.noat_ok (T.says.fact 42 (f := .noat "Picture" "parted") rfl)
theorem Tx.n_Picture_objects (T : Tx K mg) : NoAttr K (He.ga K "Picture") "objects" := He.noat_ok (T.says.fact 43 (f := .noat "Picture" "objects") rfl)
theorem Tx.m_Picture_rows (T : Tx K mg) : Meth K (He.ga K "Picture") "rows" (He.ma K (He.ga K "Picture") "rows") := He.meth_ok (T.says.fact 44 (f := .meth "Picture" "rows") rfl)
theorem Tx.m_Picture___eq__ (T : Tx K mg) : Meth K (He.ga K "Picture") "__eq__" (He.ma K (He.ga K "Picture") "__eq__") := He.meth_ok (T.says.fact 45 (f := .meth "Picture" "__eq__") rfl)
theorem Tx.k_Picture (T : Tx K mg) : Mk K (He.ga K "Picture") (He.ma K (He.ga K "Picture") "__init__") := He.mkr_ok (T.says.fact 46 (f := .mkr "Picture") rfl)
theorem Tx.f_is_reference (T : Tx K mg) : ∃ fd, FnP K "is_reference" "is_reference" s_is_reference (He.fAd K ("is_reference", none)) fd := T.says.def_ 0 (d := d_is_reference) rfl
theorem Tx.f_address_of (T : Tx K mg) : ∃ fd, FnP K "address_of" "address_of" s_address_of (He.fAd K ("address_of", none)) fd := T.says.def_ 1 (d := d_address_of) rfl
theorem Tx.f_target_at (T : Tx K mg) : ∃ fd, FnP K "target_at" "target_at" s_target_at (He.fAd K ("target_at", none)) fd := T.says.def_ 2 (d := d_target_at) rfl
theorem Tx.f_targets (T : Tx K mg) : ∃ fd, FnP K "targets" "targets" s_targets (He.fAd K ("targets", none)) fd := T.says.def_ 3 (d := d_targets) rfl
theorem Tx.f_reached_without (T : Tx K mg) : ∃ fd, FnP K "reached_without" "reached_without" s_reached_without (He.fAd K ("reached_without", none)) fd := T.says.def_ 4 (d := d_reached_without) rfl
theorem Tx.f_meet (T : Tx K mg) : ∃ fd, FnP K "meet" "meet" s_meet (He.fAd K ("meet", none)) fd := T.says.def_ 5 (d := d_meet) rfl
theorem Tx.f_kept_sets (T : Tx K mg) : ∃ fd, FnP K "kept_sets" "kept_sets" s_kept_sets (He.fAd K ("kept_sets", none)) fd := T.says.def_ 6 (d := d_kept_sets) rfl
theorem Tx.f_keepers (T : Tx K mg) : ∃ fd, FnP K "keepers" "keepers" s_keepers (He.fAd K ("keepers", none)) fd := T.says.def_ 7 (d := d_keepers) rfl
theorem Tx.f__law_whole (T : Tx K mg) : ∃ fd, FnP K "_law_whole" "_law_whole" s__law_whole (He.fAd K ("_law_whole", none)) fd := T.says.def_ 8 (d := d__law_whole) rfl
theorem Tx.f__law_cell (T : Tx K mg) : ∃ fd, FnP K "_law_cell" "_law_cell" s__law_cell (He.fAd K ("_law_cell", none)) fd := T.says.def_ 9 (d := d__law_cell) rfl
theorem Tx.f__law_digits (T : Tx K mg) : ∃ fd, FnP K "_law_digits" "_law_digits" s__law_digits (He.fAd K ("_law_digits", none)) fd := T.says.def_ 10 (d := d__law_digits) rfl
theorem Tx.f__law_held (T : Tx K mg) : ∃ fd, FnP K "_law_held" "_law_held" s__law_held (He.fAd K ("_law_held", none)) fd := T.says.def_ 11 (d := d__law_held) rfl
theorem Tx.f__law_turned (T : Tx K mg) : ∃ fd, FnP K "_law_turned" "_law_turned" s__law_turned (He.fAd K ("_law_turned", none)) fd := T.says.def_ 12 (d := d__law_turned) rfl
theorem Tx.f__law_turned_row (T : Tx K mg) : ∃ fd, FnP K "_law_turned_row" "_law_turned_row" s__law_turned_row (He.fAd K ("_law_turned_row", none)) fd := T.says.def_ 13 (d := d__law_turned_row) rfl
theorem Tx.f__law_words (T : Tx K mg) : ∃ fd, FnP K "_law_words" "_law_words" s__law_words (He.fAd K ("_law_words", none)) fd := T.says.def_ 14 (d := d__law_words) rfl
theorem Tx.f__law_root_rows (T : Tx K mg) : ∃ fd, FnP K "_law_root_rows" "_law_root_rows" s__law_root_rows (He.fAd K ("_law_root_rows", none)) fd := T.says.def_ 15 (d := d__law_root_rows) rfl
theorem Tx.f__law_numbered (T : Tx K mg) : ∃ fd, FnP K "_law_numbered" "_law_numbered" s__law_numbered (He.fAd K ("_law_numbered", none)) fd := T.says.def_ 16 (d := d__law_numbered) rfl
theorem Tx.f__law_linked (T : Tx K mg) : ∃ fd, FnP K "_law_linked" "_law_linked" s__law_linked (He.fAd K ("_law_linked", none)) fd := T.says.def_ 17 (d := d__law_linked) rfl
theorem Tx.f__law_padded (T : Tx K mg) : ∃ fd, FnP K "_law_padded" "_law_padded" s__law_padded (He.fAd K ("_law_padded", none)) fd := T.says.def_ 18 (d := d__law_padded) rfl
theorem Tx.f__law_drawn (T : Tx K mg) : ∃ fd, FnP K "_law_drawn" "_law_drawn" s__law_drawn (He.fAd K ("_law_drawn", none)) fd := T.says.def_ 19 (d := d__law_drawn) rfl
theorem Tx.f__law_mirrored (T : Tx K mg) : ∃ fd, FnP K "_law_mirrored" "_law_mirrored" s__law_mirrored (He.fAd K ("_law_mirrored", none)) fd := T.says.def_ 20 (d := d__law_mirrored) rfl
theorem Tx.f__law_made (T : Tx K mg) : ∃ fd, FnP K "_law_made" "_law_made" s__law_made (He.fAd K ("_law_made", none)) fd := T.says.def_ 21 (d := d__law_made) rfl
theorem Tx.f__law_stays (T : Tx K mg) : ∃ fd, FnP K "_law_stays" "_law_stays" s__law_stays (He.fAd K ("_law_stays", none)) fd := T.says.def_ 22 (d := d__law_stays) rfl
theorem Tx.f__law_ladder (T : Tx K mg) : ∃ fd, FnP K "_law_ladder" "_law_ladder" s__law_ladder (He.fAd K ("_law_ladder", none)) fd := T.says.def_ 23 (d := d__law_ladder) rfl
theorem Tx.f__law_kept_by (T : Tx K mg) : ∃ fd, FnP K "_law_kept_by" "_law_kept_by" s__law_kept_by (He.fAd K ("_law_kept_by", none)) fd := T.says.def_ 24 (d := d__law_kept_by) rfl
theorem Tx.f__law_right (T : Tx K mg) : ∃ fd, FnP K "_law_right" "_law_right" s__law_right (He.fAd K ("_law_right", none)) fd := T.says.def_ 25 (d := d__law_right) rfl
theorem Tx.f_law (T : Tx K mg) : ∃ fd, FnP K "law" "law" s_law (He.fAd K ("law", none)) fd := T.says.def_ 26 (d := d_law) rfl
theorem Tx.f_Picture___init__ (T : Tx K mg) : ∃ fd, FnP K "__init__" "Picture.__init__" s_Picture___init__ (He.fAd K ("Picture", some "__init__")) fd := T.says.def_ 27 (d := d_Picture___init__) rfl
theorem Tx.f_Picture_rows (T : Tx K mg) : ∃ fd, FnP K "rows" "Picture.rows" s_Picture_rows (He.fAd K ("Picture", some "rows")) fd := T.says.def_ 28 (d := d_Picture_rows) rfl
theorem Tx.f_Picture___eq__ (T : Tx K mg) : ∃ fd, FnP K "__eq__" "Picture.__eq__" s_Picture___eq__ (He.fAd K ("Picture", some "__eq__")) fd := T.says.def_ 29 (d := d_Picture___eq__) rfl
end
theorem kb1 {K : PySem.W.Frag} {x qual k : Str} {params : Arguments} {body : List Stmt} {scope : Scope} {f : Addr} {fd : FuncData} (F : FunD K x qual params body scope [] [] f fd)
    (h : ∀ (kV doc pm : Value) (an : Option Addr) (cdv ct : Value) (ws : List Value), ws.length = ([k] : List Str).length → bindArgs (PySem.W.fnOf x qual params body scope .none kV doc pm an cdv ct) ⟨[], ([k] : List Str).zip ws⟩ = pure (([k] : List Str).zip ws)) :
    KBn K fd [k] 0 [k] (fun _ ws => (match ws with | [a0] => [a0] | _ => ws)) (fun _ zs => (match zs with | [a0] => [a0] | _ => zs)) := by
  obtain ⟨oc, od, dV, kV, doc, pm, an, cdv, ct, osl, rfl, lk, hcd, hD, hK⟩ := F.ex
  rcases hD with ⟨_, rfl⟩ | ⟨e, _⟩
  · refine ⟨fun s us ws X l1 l2 => ?_, fun r1 r2 => ?_⟩
    · obtain ⟨w, rfl⟩ : ∃ w, ws = [w] := match ws, l2 with | [w], _ => ⟨w, rfl⟩
      rw [List.length_eq_zero_iff.mp l1]
      exact .of_eq (h kV doc pm an cdv ct [w] rfl)
    · cases r2 with
      | nil => exact .nil
      | cons r t =>
        cases t with
        | nil => exact .cons r .nil
        | cons r2 t => exact .cons r (.cons r2 t)
  · exact absurd rfl e
section
variable {P : Program} {w : World} {K : PySem.W.Frag} {mg : Str → Option Value} {base : Heap}
theorem sc_is_reference : FnScope ["word"] ["word"] (defScope s_is_reference) := ⟨rfl, rfl, rfl, by decide +kernel, rfl, by decide +kernel, by decide +kernel⟩
theorem ok_is_reference (T : Tx K mg)  : Cal P w K mg base CX0 1 "is_reference" ["word"] (sp_is_reference K) := by
  obtain ⟨fd, F⟩ := T.f_is_reference
  have nd := (sc_is_reference).nd
  refine ⟨_, fd, T.g_is_reference, F.kp, F.bindsN fun _ _ _ _ _ _ us hl => match us, hl with | [_], _ => rfl, F.ok sc_is_reference (fun vs H Q E h => len_is_reference K vs H Q E h) (fun cdv A outer s H vs Q E hr h => ⟨t_is_reference K, PSs.nox ?_, pure_is_reference K vs H Q E h⟩), fnAt F⟩
  have hu := hu_of hr
  exact (pss_one (ps_ret (pe_and (pe_cmpR op_eq (pe_op op_mod (pv 0) pe_int) pe_int (nomark _)) (pe_one (pe_cmpR op_ne (pv 0) (pe_glob rfl T.i_NIL.choose_spec ⟨_, rfl⟩) (nomark _))))))
theorem sc_address_of : FnScope ["word"] ["word"] (defScope s_address_of) := ⟨rfl, rfl, rfl, by decide +kernel, rfl, by decide +kernel, by decide +kernel⟩
theorem ok_address_of (T : Tx K mg)  : Cal P w K mg base CX0 1 "address_of" ["word"] (sp_address_of K) := by
  obtain ⟨fd, F⟩ := T.f_address_of
  have nd := (sc_address_of).nd
  refine ⟨_, fd, T.g_address_of, F.kp, F.bindsN fun _ _ _ _ _ _ us hl => match us, hl with | [_], _ => rfl, F.ok sc_address_of (fun vs H Q E h => len_address_of K vs H Q E h) (fun cdv A outer s H vs Q E hr h => ⟨t_address_of K, PSs.nox ?_, pure_address_of K vs H Q E h⟩), fnAt F⟩
  have hu := hu_of hr
  exact (pss_one (ps_ret (pe_op op_fdivW (pv 0) pe_int)))
theorem sc_target_at : FnScope ["words", "position"] ["words", "position"] (defScope s_target_at) := ⟨rfl, rfl, rfl, by decide +kernel, rfl, by decide +kernel, by decide +kernel⟩
theorem ok_target_at (T : Tx K mg) (c_address_of : Cal P w K mg base CX0 1 "address_of" ["word"] (sp_address_of K)) (c_is_reference : Cal P w K mg base CX0 1 "is_reference" ["word"] (sp_is_reference K)) : Cal P w K mg base CX0 2 "target_at" ["words", "position"] (sp_target_at K) := by
  obtain ⟨fd, F⟩ := T.f_target_at
  have nd := (sc_target_at).nd
  refine ⟨_, fd, T.g_target_at, F.kp, F.bindsN fun _ _ _ _ _ _ us hl => match us, hl with | [_, _], _ => rfl, F.ok sc_target_at (fun vs H Q E h => len_target_at K vs H Q E h) (fun cdv A outer s H vs Q E hr h => ⟨t_target_at K, PSs.nox ?_, pure_target_at K vs H Q E h⟩), fnAt F⟩
  have hu := hu_of hr
  exact (pss_cons (ps_if (PW.pt (pw_or (pt_not (pt_chain op_le op_lt pe_int (pv 1) (pe_callB call_len_seq (by rfl) T.b_len PySem.boot_len (pa_cons (pv 0) pa_nil)))) (pw_or1 (pt_not (pt_val (pe_cal c_is_reference hr (by decide) (by rfl) pass0 (pa_cons (pe_ix ix_seq (pv 0) (pv 1) (fun _ _ => rfl)) pa_nil))))))) (pss_one (ps_ret pe_non)) pss_nil)
      (pss_one (ps_ret (pe_op op_sub (pe_cal c_address_of hr (by decide) (by rfl) pass0 (pa_cons (pe_ix ix_seq (pv 0) (pv 1) (fun _ _ => rfl)) pa_nil)) pe_int))))
theorem sc_targets : FnScope ["words", "told", "position", "number"] ["words"] (defScope s_targets) := ⟨rfl, rfl, rfl, by decide +kernel, rfl, by decide +kernel, by decide +kernel⟩
theorem ok_targets (T : Tx K mg) (c_target_at : Cal P w K mg base CX0 2 "target_at" ["words", "position"] (sp_target_at K)) : Cal P w K mg base CX0 3 "targets" ["words"] (sp_targets K) := by
  obtain ⟨fd, F⟩ := T.f_targets
  have nd := (sc_targets).nd
  refine ⟨_, fd, T.g_targets, F.kp, F.bindsN fun _ _ _ _ _ _ us hl => match us, hl with | [_], _ => rfl, F.ok sc_targets (fun vs H Q E h => len_targets K vs H Q E h) (fun cdv A outer s H vs Q E hr h => ⟨t_targets K, PSs.nox ?_, pure_targets K vs H Q E h⟩), fnAt F⟩
  have hu := hu_of hr
  exact (pss_cons (ps_set (i := 1) nd rfl (Or.inl rfl) (pe_lst pa_nil))
      (pss_cons (ps_for PassesOwn.never rfl (pi_range1 (by rfl) T.b_range (pa_cons (pe_callB call_len_seq (by rfl) T.b_len PySem.boot_len (pa_cons (pv 0) pa_nil)) pa_nil)) (pg_name (i := 2) nd rfl (Or.inl rfl)) (pss_cons (ps_set (i := 3) nd rfl (Or.inl rfl) (pe_cal c_target_at hr (by decide) (by rfl) pass0 (pa_cons (pv 0) (pa_cons (pv 2) pa_nil))))
      (pss_one (ps_if (pt_cmpR op_notN (pv 3) pe_non (nomark _)) (pss_one (ps_expr (pe_bm PySem.F.plainAttrs_list PySem.F.slot_list_append PySem.F.type_list_append mt_append (pv 1) (pa_cons (pe_tup (pa_cons (pv 2) (pa_cons (pv 3) pa_nil))) pa_nil)))) pss_nil))))
      (pss_one (ps_ret (pv 1)))))
theorem sc_meet : FnScope ["found", "order", "known", "_", "number"] ["found", "order", "known"] (defScope s_meet) := ⟨rfl, rfl, rfl, by decide +kernel, rfl, by decide +kernel, by decide +kernel⟩
theorem ok_meet (T : Tx K mg)  : Cal P w K mg base CX0 1 "meet" ["found", "order", "known"] (sp_meet K) := by
  obtain ⟨fd, F⟩ := T.f_meet
  have nd := (sc_meet).nd
  refine ⟨_, fd, T.g_meet, F.kp, F.bindsN fun _ _ _ _ _ _ us hl => match us, hl with | [_, _, _], _ => rfl, F.ok sc_meet (fun vs H Q E h => len_meet K vs H Q E h) (fun cdv A outer s H vs Q E hr h => ⟨t_meet K, PSs.nox ?_, pure_meet K vs H Q E h⟩), fnAt F⟩
  have hu := hu_of hr
  exact (pss_one (ps_for PassesOwn.never rfl (pi_seq (pv 0)) (pg_sq rfl (pgs_cons (pg_name (i := 3) nd rfl (Or.inl rfl)) (pgs_cons (pg_name (i := 4) nd rfl (Or.inl rfl)) pgs_nil))) (pss_one (ps_if (pt_cmp (pc_dnotin hu (pv 4) (pv 2))) (pss_cons (ps_dput hu (pv 2) (pv 4) pe_bl rfl)
      (pss_one (ps_expr (pe_bm PySem.F.plainAttrs_list PySem.F.slot_list_append PySem.F.type_list_append mt_append (pv 1) (pa_cons (pv 4) pa_nil))))) pss_nil))))
theorem sc__law_whole : FnScope ["_law_value"] ["_law_value"] (defScope s__law_whole) := ⟨rfl, rfl, rfl, by decide +kernel, rfl, by decide +kernel, by decide +kernel⟩
theorem ok__law_whole (T : Tx K mg)  : Cal P w K mg base CX0 1 "_law_whole" ["_law_value"] (sp__law_whole K) := by
  obtain ⟨fd, F⟩ := T.f__law_whole
  have nd := (sc__law_whole).nd
  refine ⟨_, fd, T.g__law_whole, F.kp, F.bindsN fun _ _ _ _ _ _ us hl => match us, hl with | [_], _ => rfl, F.ok sc__law_whole (fun vs H Q E h => len__law_whole K vs H Q E h) (fun cdv A outer s H vs Q E hr h => ⟨t__law_whole K, PSs.nox ?_, pure__law_whole K vs H Q E h⟩), fnAt F⟩
  have hu := hu_of hr
  exact (pss_one (ps_ret (pe_and (pe_callB call_isi (by rfl) T.b_isinstance (by decide +kernel) (pa_cons (pv 0) (pa_cons (pe_bltn (by rfl) T.b_int (by decide +kernel) rfl) pa_nil))) (pe_one (pe_not (pe_callB call_isi (by rfl) T.b_isinstance (by decide +kernel) (pa_cons (pv 0) (pa_cons (pe_bltn (by rfl) T.b_bool (by decide +kernel) rfl) pa_nil))))))))
theorem sc__law_cell : FnScope ["_law_script", "_law_k", "_law_seed", "_law_cell_here"] ["_law_script", "_law_k"] (defScope s__law_cell) := ⟨rfl, rfl, rfl, by decide +kernel, rfl, by decide +kernel, by decide +kernel⟩
theorem ok__law_cell (T : Tx K mg)  : Cal P w K mg base CX0 1 "_law_cell" ["_law_script", "_law_k"] (sp__law_cell K) := by
  obtain ⟨fd, F⟩ := T.f__law_cell
  have nd := (sc__law_cell).nd
  refine ⟨_, fd, T.g__law_cell, F.kp, F.bindsN fun _ _ _ _ _ _ us hl => match us, hl with | [_, _], _ => rfl, F.ok sc__law_cell (fun vs H Q E h => len__law_cell K vs H Q E h) (fun cdv A outer s H vs Q E hr h => ⟨t__law_cell K, PSs.nox ?_, pure__law_cell K vs H Q E h⟩), fnAt F⟩
  have hu := hu_of hr
  exact (pss_cons (ps_if (pt_cmpR op_lt (pv 1) (pe_callB call_len_seq (by rfl) T.b_len PySem.boot_len (pa_cons (pv 0) pa_nil)) (nomark _)) (pss_one (ps_ret (pe_ix ix_seq (pv 0) (pv 1) (fun _ _ => rfl)))) pss_nil)
      (pss_cons (ps_set (i := 2) nd rfl (Or.inl rfl) pe_int)
      (pss_cons (ps_for PassesOwn.never rfl (pi_seq (pv 0)) (pg_name (i := 3) nd rfl (Or.inl rfl)) (pss_one (ps_set (i := 2) nd rfl (Or.inl rfl) (pe_op op_mod (pe_callTy call_int1 (by rfl) T.b_int (by decide +kernel) (pa_cons (pe_op op_add (pe_op op_mul (pv 2) pe_int) (pe_op op_mod (pe_callTy call_int1 (by rfl) T.b_int (by decide +kernel) (pa_cons (pv 3) pa_nil)) pe_int)) pa_nil)) pe_int))))
      (pss_one (ps_ret (pe_op op_mod (pe_callTy call_int1 (by rfl) T.b_int (by decide +kernel) (pa_cons (pe_op op_mul (pe_op op_mul (pe_op op_add (pv 2) pe_int) (pe_op op_add (pv 1) pe_int)) pe_int) pa_nil)) pe_int))))))
theorem sc__law_digits : FnScope ["_law_cell_here", "_law_sizes", "_law_row", "_law_rest", "_law_size", "_law_seed", "_law_k", "_law_twice"] ["_law_cell_here", "_law_sizes"] (defScope s__law_digits) := ⟨rfl, rfl, rfl, by decide +kernel, rfl, by decide +kernel, by decide +kernel⟩
theorem ok__law_digits (T : Tx K mg)  : Cal P w K mg base CX0 1 "_law_digits" ["_law_cell_here", "_law_sizes"] (sp__law_digits K) := by
  obtain ⟨fd, F⟩ := T.f__law_digits
  have nd := (sc__law_digits).nd
  refine ⟨_, fd, T.g__law_digits, F.kp, F.bindsN fun _ _ _ _ _ _ us hl => match us, hl with | [_, _], _ => rfl, F.ok sc__law_digits (fun vs H Q E h => len__law_digits K vs H Q E h) (fun cdv A outer s H vs Q E hr h => ⟨t__law_digits K, PSs.nox ?_, pure__law_digits K vs H Q E h⟩), fnAt F⟩
  have hu := hu_of hr
  exact (pss_cons (ps_set (i := 2) nd rfl (Or.inl rfl) (pe_lst pa_nil))
      (pss_cons (ps_set (i := 3) nd rfl (Or.inl rfl) (pe_callTy call_int1 (by rfl) T.b_int (by decide +kernel) (pa_cons (pv 0) pa_nil)))
      (pss_cons (ps_if (pt_cmpR op_ge (pv 3) (pe_op op_pow pe_int pe_int) (nomark _)) (pss_cons (ps_set (i := 3) nd rfl (Or.inl rfl) (pe_op op_sub (pv 3) (pe_op op_pow pe_int pe_int)))
      (pss_cons (ps_for PassesOwn.never rfl (pi_seq (pv 1)) (pg_name (i := 4) nd rfl (Or.inl rfl)) (pss_cons (ps_expr (pe_bm PySem.F.plainAttrs_list PySem.F.slot_list_append PySem.F.type_list_append mt_append (pv 2) (pa_cons (pe_op op_mod (pe_callTy call_int1 (by rfl) T.b_int (by decide +kernel) (pa_cons (pv 3) pa_nil)) (pv 4)) pa_nil)))
      (pss_one (ps_set (i := 3) nd rfl (Or.inl rfl) (pe_op op_fdivW (pe_callTy call_int1 (by rfl) T.b_int (by decide +kernel) (pa_cons (pv 3) pa_nil)) (pv 4))))))
      (pss_one (ps_ret (pv 2))))) pss_nil)
      (pss_cons (ps_set (i := 5) nd rfl (Or.inl rfl) (pe_op op_mod (pe_callTy call_int1 (by rfl) T.b_int (by decide +kernel) (pa_cons (pv 3) pa_nil)) pe_int))
      (pss_cons (ps_for PassesOwn.never rfl (pi_range1 (by rfl) T.b_range (pa_cons (pe_callB call_len_seq (by rfl) T.b_len PySem.boot_len (pa_cons (pv 1) pa_nil)) pa_nil)) (pg_name (i := 6) nd rfl (Or.inl rfl)) (pss_cons (ps_set (i := 5) nd rfl (Or.inl rfl) (pe_op op_mod (pe_callTy call_int1 (by rfl) T.b_int (by decide +kernel) (pa_cons (pe_op op_add (pe_op op_add (pe_op op_mul (pv 5) pe_int) (pe_op op_mul pe_int (pv 6))) pe_int) pa_nil)) pe_int))
      (pss_cons (ps_set (i := 7) nd rfl (Or.inl rfl) (pe_op op_mod (pe_callTy call_int1 (by rfl) T.b_int (by decide +kernel) (pa_cons (pe_op op_mul (pv 5) (pe_op op_add (pe_op op_fdivW (pv 5) pe_int) pe_int)) pa_nil)) pe_int))
      (pss_one (ps_expr (pe_bm PySem.F.plainAttrs_list PySem.F.slot_list_append PySem.F.type_list_append mt_append (pv 2) (pa_cons (pe_op op_mod (pe_op op_fdivW (pv 7) pe_int) (pe_ix ix_seq (pv 1) (pv 6) (fun _ _ => rfl))) pa_nil)))))))
      (pss_one (ps_ret (pv 2))))))))
theorem sc__law_held : FnScope ["_law_rows", "_law_objects", "_law_order", "_law_known", "_law_row", "_law_word", "_law_k"] ["_law_rows", "_law_objects"] (defScope s__law_held) := ⟨rfl, rfl, rfl, by decide +kernel, rfl, by decide +kernel, by decide +kernel⟩
theorem ok__law_held (T : Tx K mg)  : Cal P w K mg base CX0 1 "_law_held" ["_law_rows", "_law_objects"] (sp__law_held K) := by
  obtain ⟨fd, F⟩ := T.f__law_held
  have nd := (sc__law_held).nd
  refine ⟨_, fd, T.g__law_held, F.kp, F.bindsN fun _ _ _ _ _ _ us hl => match us, hl with | [_, _], _ => rfl, F.ok sc__law_held (fun vs H Q E h => len__law_held K vs H Q E h) (fun cdv A outer s H vs Q E hr h => ⟨t__law_held K, PSs.nox ?_, pure__law_held K vs H Q E h⟩), fnAt F⟩
  have hu := hu_of hr
  exact (pss_cons (ps_set (i := 2) nd rfl (Or.inl rfl) (pe_lst pa_nil))
      (pss_cons (ps_set (i := 3) nd rfl (Or.inl rfl) pe_dnewK)
      (pss_cons (ps_for PassesOwn.never rfl (pi_seq (pv 0)) (pg_name (i := 4) nd rfl (Or.inl rfl)) (pss_one (ps_for PassesOwn.never rfl (pi_seq (pv 4)) (pg_name (i := 5) nd rfl (Or.inl rfl)) (pss_one (ps_if (PW.pt (pw_and (pt_cmpR op_gt (pv 5) pe_int (nomark _)) (pw_and (pt_cmpR op_eq (pe_op op_mod (pe_callTy call_int1 (by rfl) T.b_int (by decide +kernel) (pa_cons (pv 5) pa_nil)) pe_int) pe_int (nomark _)) (pw_and1 (pt_cmp (pc_dnotin hu (pv 5) (pv 3))))))) (pss_cons (ps_dput hu (pv 3) (pv 5) pe_bl rfl)
      (pss_one (ps_expr (pe_bm PySem.F.plainAttrs_list PySem.F.slot_list_append PySem.F.type_list_append mt_append (pv 2) (pa_cons (pe_op op_sub (pe_op op_fdivW (pv 5) pe_int) pe_int) pa_nil))))) pss_nil)))))
      (pss_cons (ps_for PassesOwn.never rfl (pi_range1 (by rfl) T.b_range (pa_cons pe_int pa_nil)) (pg_name (i := 6) nd rfl (Or.inl rfl)) (pss_cons (ps_if (pt_cmpR op_ge (pv 6) (pe_callB call_len_seq (by rfl) T.b_len PySem.boot_len (pa_cons (pv 2) pa_nil)) (nomark _)) (pss_one ps_break) pss_nil)
      (pss_one (ps_for PassesOwn.never rfl (pi_seq (pe_ix ix_seq (pe_ix ix_seq (pv 1) (pe_ix ix_seq (pv 2) (pv 6) (fun _ _ => rfl)) (fun _ _ => rfl)) pe_int (fun _ _ => rfl))) (pg_name (i := 5) nd rfl (Or.inl rfl)) (pss_one (ps_if (PW.pt (pw_and (pt_cmpR op_gt (pv 5) pe_int (nomark _)) (pw_and (pt_cmpR op_eq (pe_op op_mod (pe_callTy call_int1 (by rfl) T.b_int (by decide +kernel) (pa_cons (pv 5) pa_nil)) pe_int) pe_int (nomark _)) (pw_and1 (pt_cmp (pc_dnotin hu (pv 5) (pv 3))))))) (pss_cons (ps_dput hu (pv 3) (pv 5) pe_bl rfl)
      (pss_one (ps_expr (pe_bm PySem.F.plainAttrs_list PySem.F.slot_list_append PySem.F.type_list_append mt_append (pv 2) (pa_cons (pe_op op_sub (pe_op op_fdivW (pv 5) pe_int) pe_int) pa_nil))))) pss_nil))))))
      (pss_one (ps_ret (pv 2)))))))
theorem sc__law_turned : FnScope ["_law_word", "_law_spots"] ["_law_word", "_law_spots"] (defScope s__law_turned) := ⟨rfl, rfl, rfl, by decide +kernel, rfl, by decide +kernel, by decide +kernel⟩
theorem ok__law_turned (T : Tx K mg)  : Cal P w K mg base CX0 1 "_law_turned" ["_law_word", "_law_spots"] (sp__law_turned K) := by
  obtain ⟨fd, F⟩ := T.f__law_turned
  have nd := (sc__law_turned).nd
  refine ⟨_, fd, T.g__law_turned, F.kp, F.bindsN fun _ _ _ _ _ _ us hl => match us, hl with | [_, _], _ => rfl, F.ok sc__law_turned (fun vs H Q E h => len__law_turned K vs H Q E h) (fun cdv A outer s H vs Q E hr h => ⟨t__law_turned K, PSs.nox ?_, pure__law_turned K vs H Q E h⟩), fnAt F⟩
  have hu := hu_of hr
  exact (pss_cons (ps_if (PW.pt (pw_and (pt_cmpR op_gt (pv 0) pe_int (nomark _)) (pw_and1 (pt_cmpR op_eq (pe_op op_mod (pe_callTy call_int1 (by rfl) T.b_int (by decide +kernel) (pa_cons (pv 0) pa_nil)) pe_int) pe_int (nomark _))))) (pss_one (ps_ret (pe_op op_add (pe_op op_mul pe_int (pe_dget hu (pv 1) (pe_op op_sub (pe_op op_fdivW (pv 0) pe_int) pe_int) (fun _ _ => rfl))) pe_int))) pss_nil)
      (pss_one (ps_ret (pv 0))))
theorem sc__law_turned_row : FnScope ["_law_row", "_law_spots", "_law_word"] ["_law_row", "_law_spots"] (defScope s__law_turned_row) := ⟨rfl, rfl, rfl, by decide +kernel, rfl, by decide +kernel, by decide +kernel⟩
theorem ok__law_turned_row (T : Tx K mg) (c__law_turned : Cal P w K mg base CX0 1 "_law_turned" ["_law_word", "_law_spots"] (sp__law_turned K)) : Cal P w K mg base CX0 2 "_law_turned_row" ["_law_row", "_law_spots"] (sp__law_turned_row K) := by
  obtain ⟨fd, F⟩ := T.f__law_turned_row
  have nd := (sc__law_turned_row).nd
  refine ⟨_, fd, T.g__law_turned_row, F.kp, F.bindsN fun _ _ _ _ _ _ us hl => match us, hl with | [_, _], _ => rfl, F.ok sc__law_turned_row (fun vs H Q E h => len__law_turned_row K vs H Q E h) (fun cdv A outer s H vs Q E hr h => ⟨t__law_turned_row K, PSs.nox ?_, pure__law_turned_row K vs H Q E h⟩), fnAt F⟩
  have hu := hu_of hr
  exact (pss_one (ps_ret (pe_callTy call_tuple_of (by rfl) T.b_tuple (by decide +kernel) (pa_cons (pe_lc (own := [("_law_word", 2)]) (g := (gName 2)) (tt := tYes) (te := (tCall (sp__law_turned K) [] E0 (tCons (tVar 2) (tCons (tVar 1) tNil)))) rfl nd (pi_seq (pv 0)) (blkOk_by (own := [("_law_word", 2)]) (N := ["_law_row", "_law_spots", "_law_word"]) (sc := defScope s__law_turned_row) (by decide +kernel)) (fun _ _ _ _ _ => (pg_name (i := 2) nd rfl (Or.inl rfl))) (fun _ _ _ _ _ => pts_nil) (fun _ _ _ _ _ => (pe_cal c__law_turned hr (by decide) (by rfl) pass0 (pa_cons (pv 2) (pa_cons (pv 1) pa_nil))))) pa_nil))))
theorem sc__law_words : FnScope ["_law_row", "_law_at", "_law_count", "_law_many", "_law_dense", "_law_words_here", "_law_k", "_law_kind", "_law_pick"] ["_law_row", "_law_at", "_law_count", "_law_many", "_law_dense"] (defScope s__law_words) := ⟨rfl, rfl, rfl, by decide +kernel, rfl, by decide +kernel, by decide +kernel⟩
theorem ok__law_words (T : Tx K mg)  : Cal P w K mg base CX0 1 "_law_words" ["_law_row", "_law_at", "_law_count", "_law_many", "_law_dense"] (sp__law_words K) := by
  obtain ⟨fd, F⟩ := T.f__law_words
  have nd := (sc__law_words).nd
  refine ⟨_, fd, T.g__law_words, F.kp, F.bindsN fun _ _ _ _ _ _ us hl => match us, hl with | [_, _, _, _, _], _ => rfl, F.ok sc__law_words (fun vs H Q E h => len__law_words K vs H Q E h) (fun cdv A outer s H vs Q E hr h => ⟨t__law_words K, PSs.nox ?_, pure__law_words K vs H Q E h⟩), fnAt F⟩
  have hu := hu_of hr
  exact (pss_cons (ps_set (i := 5) nd rfl (Or.inl rfl) (pe_lst pa_nil))
      (pss_cons (ps_for PassesOwn.never rfl (pi_range1 (by rfl) T.b_range (pa_cons (pv 2) pa_nil)) (pg_name (i := 6) nd rfl (Or.inl rfl)) (pss_cons (ps_set (i := 7) nd rfl (Or.inl rfl) (pe_ix ix_seq (pv 0) (pe_op op_add (pv 1) (pe_op op_mul pe_int (pv 6))) (fun _ _ => rfl)))
      (pss_cons (ps_set (i := 8) nd rfl (Or.inl rfl) (pe_ix ix_seq (pv 0) (pe_op op_add (pe_op op_add (pv 1) (pe_op op_mul pe_int (pv 6))) pe_int) (fun _ _ => rfl)))
      (pss_one (ps_if (PW.pt (pw_and (pt_cmpR op_lt (pv 7) (pv 4) (nomark _)) (pw_and1 (pt_cmpR op_gt (pv 3) pe_int (nomark _))))) (pss_one (ps_expr (pe_bm PySem.F.plainAttrs_list PySem.F.slot_list_append PySem.F.type_list_append mt_append (pv 5) (pa_cons (pe_op op_add (pe_op op_mul pe_int (pe_op op_mod (pe_callTy call_int1 (by rfl) T.b_int (by decide +kernel) (pa_cons (pv 8) pa_nil)) (pv 3))) pe_int) pa_nil)))) (pss_one (ps_if (pt_cmpR op_eq (pv 7) pe_int (nomark _)) (pss_one (ps_expr (pe_bm PySem.F.plainAttrs_list PySem.F.slot_list_append PySem.F.type_list_append mt_append (pv 5) (pa_cons pe_int pa_nil)))) (pss_one (ps_if (pt_cmpR op_eq (pv 7) pe_int (nomark _)) (pss_one (ps_expr (pe_bm PySem.F.plainAttrs_list PySem.F.slot_list_append PySem.F.type_list_append mt_append (pv 5) (pa_cons (pe_op op_sub (pe_op op_mul pe_int (pe_ix ix_seq (pv 0) (pe_op op_add (pe_op op_add (pv 1) (pe_op op_mul pe_int (pv 6))) pe_int) (fun _ _ => rfl))) pe_int) pa_nil)))) (pss_one (ps_expr (pe_bm PySem.F.plainAttrs_list PySem.F.slot_list_append PySem.F.type_list_append mt_append (pv 5) (pa_cons (pe_op op_sub (pe_op op_mul pe_int (pe_op op_mod (pe_callTy call_int1 (by rfl) T.b_int (by decide +kernel) (pa_cons (pv 8) pa_nil)) pe_int)) pe_int) pa_nil)))))))))))))
      (pss_one (ps_ret (pv 5)))))
theorem sc__law_root_rows : FnScope ["_law_parts", "_law_rows", "_law_frame"] ["_law_parts"] (defScope s__law_root_rows) := ⟨rfl, rfl, rfl, by decide +kernel, rfl, by decide +kernel, by decide +kernel⟩
theorem ok__law_root_rows (T : Tx K mg)  : Cal P w K mg base CX0 1 "_law_root_rows" ["_law_parts"] (sp__law_root_rows K) := by
  obtain ⟨fd, F⟩ := T.f__law_root_rows
  have nd := (sc__law_root_rows).nd
  refine ⟨_, fd, T.g__law_root_rows, F.kp, F.bindsN fun _ _ _ _ _ _ us hl => match us, hl with | [_], _ => rfl, F.ok sc__law_root_rows (fun vs H Q E h => len__law_root_rows K vs H Q E h) (fun cdv A outer s H vs Q E hr h => ⟨t__law_root_rows K, PSs.nox ?_, pure__law_root_rows K vs H Q E h⟩), fnAt F⟩
  have hu := hu_of hr
  exact (pss_cons (ps_set (i := 1) nd rfl (Or.inl rfl) (pe_lst (pa_cons (pe_ix ix_seq (pv 0) pe_int (fun _ _ => rfl)) pa_nil)))
      (pss_cons (ps_for PassesOwn.never rfl (pi_seq (pe_ix ix_seq (pv 0) pe_int (fun _ _ => rfl))) (pg_name (i := 2) nd rfl (Or.inl rfl)) (pss_one (ps_set (i := 1) nd rfl (Or.inl rfl) (pe_op op_cat (pv 1) (pe_lst (pa_cons (pe_ix ix_seq (pv 2) pe_int (fun _ _ => rfl)) (pa_cons (pe_ix ix_seq (pv 2) pe_int (fun _ _ => rfl)) pa_nil)))))))
      (pss_one (ps_ret (pe_op op_cat (pv 1) (pe_lst (pa_cons (pe_ix ix_seq (pv 0) pe_int (fun _ _ => rfl)) (pa_cons (pe_ix ix_seq (pv 0) pe_int (fun _ _ => rfl)) pa_nil))))))))
theorem sc__law_numbered : FnScope ["_law_parts", "_law_order", "_law_spots", "_law_k", "_law_frames", "_law_objects", "_law_frame"] ["_law_parts"] (defScope s__law_numbered) := ⟨rfl, rfl, rfl, by decide +kernel, rfl, by decide +kernel, by decide +kernel⟩
theorem ok__law_numbered (T : Tx K mg) (c__law_held : Cal P w K mg base CX0 1 "_law_held" ["_law_rows", "_law_objects"] (sp__law_held K)) (c__law_root_rows : Cal P w K mg base CX0 1 "_law_root_rows" ["_law_parts"] (sp__law_root_rows K)) (c__law_turned_row : Cal P w K mg base CX0 2 "_law_turned_row" ["_law_row", "_law_spots"] (sp__law_turned_row K)) : Cal P w K mg base CX0 3 "_law_numbered" ["_law_parts"] (sp__law_numbered K) := by
  obtain ⟨fd, F⟩ := T.f__law_numbered
  have nd := (sc__law_numbered).nd
  refine ⟨_, fd, T.g__law_numbered, F.kp, F.bindsN fun _ _ _ _ _ _ us hl => match us, hl with | [_], _ => rfl, F.ok sc__law_numbered (fun vs H Q E h => len__law_numbered K vs H Q E h) (fun cdv A outer s H vs Q E hr h => ⟨t__law_numbered K, PSs.nox ?_, pure__law_numbered K vs H Q E h⟩), fnAt F⟩
  have hu := hu_of hr
  exact (pss_cons (ps_set (i := 1) nd rfl (Or.inl rfl) (pe_cal c__law_held hr (by decide) (by rfl) pass0 (pa_cons (pe_cal c__law_root_rows hr (by decide) (by rfl) pass0 (pa_cons (pv 0) pa_nil)) (pa_cons (pe_ix ix_seq (pv 0) pe_int (fun _ _ => rfl)) pa_nil))))
      (pss_cons (ps_set (i := 2) nd rfl (Or.inr rfl) pe_dnewK)
      (pss_cons (ps_for PassesOwn.never rfl (pi_range1 (by rfl) T.b_range (pa_cons (pe_callB call_len_seq (by rfl) T.b_len PySem.boot_len (pa_cons (pv 1) pa_nil)) pa_nil)) (pg_name (i := 3) nd rfl (Or.inl rfl)) (pss_one (ps_dput hu (pv 2) (pe_ix ix_seq (pv 1) (pv 3) (fun _ _ => rfl)) (pv 3) rfl)))
      (pss_cons (ps_setLc (i := 4) (own := [("_law_frame", 6)]) (g := (gName 6)) (tt := tYes) (te := (tTup (tCons (tOp (rIx K) (tVar 6) (tC (.int 0))) (tCons (tOp (rIx K) (tVar 6) (tC (.int 1))) (tCons (tCall (sp__law_turned_row K) [] E0 (tCons (tOp (rIx K) (tVar 6) (tC (.int 2))) (tCons (tVar 2) tNil))) (tCons (tCall (sp__law_turned_row K) [] E0 (tCons (tOp (rIx K) (tVar 6) (tC (.int 3))) (tCons (tVar 2) tNil))) tNil)))))) rfl nd rfl rfl (sw_true rfl rfl rfl (by decide +kernel)) (pi_seq (pe_ix ix_seq (pv 0) pe_int (fun _ _ => rfl))) (blkOk_by (own := [("_law_frame", 6)]) (N := ["_law_parts", "_law_order", "_law_spots", "_law_k", "_law_frames", "_law_objects", "_law_frame"]) (sc := defScope s__law_numbered) (by decide +kernel)) (fun _ _ _ _ _ => (pg_name (i := 6) nd rfl (Or.inl rfl))) (fun _ _ _ _ _ => pts_nil) (fun _ _ _ _ _ => (pe_tup (pa_cons (pe_ix ix_seq (pv 6) pe_int (fun _ _ => rfl)) (pa_cons (pe_ix ix_seq (pv 6) pe_int (fun _ _ => rfl)) (pa_cons (pe_cal c__law_turned_row hr (by decide) (by rfl) pass0 (pa_cons (pe_ix ix_seq (pv 6) pe_int (fun _ _ => rfl)) (pa_cons (pv 2) pa_nil))) (pa_cons (pe_cal c__law_turned_row hr (by decide) (by rfl) pass0 (pa_cons (pe_ix ix_seq (pv 6) pe_int (fun _ _ => rfl)) (pa_cons (pv 2) pa_nil))) pa_nil)))))))
      (pss_cons (ps_setLc (i := 5) (own := [("_law_k", 3)]) (g := (gName 3)) (tt := tYes) (te := (tTup (tCons (tOp (rIx K) (tOp (rIx K) (tOp (rIx K) (tVar 0) (tC (.int 4))) (tVar 3)) (tC (.int 0))) (tCons (tCall (sp__law_turned_row K) [] E0 (tCons (tOp (rIx K) (tOp (rIx K) (tOp (rIx K) (tVar 0) (tC (.int 4))) (tVar 3)) (tC (.int 1))) (tCons (tVar 2) tNil))) tNil)))) rfl nd rfl rfl (sw_true rfl rfl rfl (by decide +kernel)) (pi_seq (pv 1)) (blkOk_by (own := [("_law_k", 3)]) (N := ["_law_parts", "_law_order", "_law_spots", "_law_k", "_law_frames", "_law_objects", "_law_frame"]) (sc := defScope s__law_numbered) (by decide +kernel)) (fun _ _ _ _ _ => (pg_name (i := 3) nd rfl (Or.inl rfl))) (fun _ _ _ _ _ => pts_nil) (fun _ _ _ _ _ => (pe_tup (pa_cons (pe_ix ix_seq (pe_ix ix_seq (pe_ix ix_seq (pv 0) pe_int (fun _ _ => rfl)) (pv 3) (fun _ _ => rfl)) pe_int (fun _ _ => rfl)) (pa_cons (pe_cal c__law_turned_row hr (by decide) (by rfl) pass0 (pa_cons (pe_ix ix_seq (pe_ix ix_seq (pe_ix ix_seq (pv 0) pe_int (fun _ _ => rfl)) (pv 3) (fun _ _ => rfl)) pe_int (fun _ _ => rfl)) (pa_cons (pv 2) pa_nil))) pa_nil)))))
      (pss_one (ps_ret (pe_lst (pa_cons (pe_cal c__law_turned_row hr (by decide) (by rfl) pass0 (pa_cons (pe_ix ix_seq (pv 0) pe_int (fun _ _ => rfl)) (pa_cons (pv 2) pa_nil))) (pa_cons (pe_callTy call_tuple_of (by rfl) T.b_tuple (by decide +kernel) (pa_cons (pv 4) pa_nil)) (pa_cons (pe_cal c__law_turned_row hr (by decide) (by rfl) pass0 (pa_cons (pe_ix ix_seq (pv 0) pe_int (fun _ _ => rfl)) (pa_cons (pv 2) pa_nil))) (pa_cons (pe_cal c__law_turned_row hr (by decide) (by rfl) pass0 (pa_cons (pe_ix ix_seq (pv 0) pe_int (fun _ _ => rfl)) (pa_cons (pv 2) pa_nil))) (pa_cons (pe_callTy call_tuple_of (by rfl) T.b_tuple (by decide +kernel) (pa_cons (pv 5) pa_nil)) pa_nil)))))))))))))
theorem sc__law_linked : FnScope ["_law_parts", "_law_links", "_law_tall", "_law_narrow", "_law_woven", "_law_rows", "_law_k", "_law_parent", "_law_words_here"] ["_law_parts", "_law_links", "_law_tall", "_law_narrow", "_law_woven"] (defScope s__law_linked) := ⟨rfl, rfl, rfl, by decide +kernel, rfl, by decide +kernel, by decide +kernel⟩
theorem ok__law_linked (T : Tx K mg) (c__law_root_rows : Cal P w K mg base CX0 1 "_law_root_rows" ["_law_parts"] (sp__law_root_rows K)) : Cal P w K mg base CX0 2 "_law_linked" ["_law_parts", "_law_links", "_law_tall", "_law_narrow", "_law_woven"] (sp__law_linked K) := by
  obtain ⟨fd, F⟩ := T.f__law_linked
  have nd := (sc__law_linked).nd
  refine ⟨_, fd, T.g__law_linked, F.kp, F.bindsN fun _ _ _ _ _ _ us hl => match us, hl with | [_, _, _, _, _], _ => rfl, F.ok sc__law_linked (fun vs H Q E h => len__law_linked K vs H Q E h) (fun cdv A outer s H vs Q E hr h => ⟨t__law_linked K, PSs.nox ?_, pure__law_linked K vs H Q E h⟩), fnAt F⟩
  have hu := hu_of hr
  exact (pss_cons (ps_set (i := 5) nd rfl (Or.inl rfl) (pe_cal c__law_root_rows hr (by decide) (by rfl) pass0 (pa_cons (pv 0) pa_nil)))
      (pss_one (ps_for PassesOwn.never rfl (pi_range1 (by rfl) T.b_range (pa_cons (pe_callB call_len_seq (by rfl) T.b_len PySem.boot_len (pa_cons (pe_ix ix_seq (pv 0) pe_int (fun _ _ => rfl)) pa_nil)) pa_nil)) (pg_name (i := 6) nd rfl (Or.inl rfl)) (pss_cons (ps_set (i := 7) nd rfl (Or.inl rfl) (pe_op op_mod (pe_callTy call_int1 (by rfl) T.b_int (by decide +kernel) (pa_cons (pe_ix ix_seq (pe_ix ix_seq (pv 1) (pv 6) (fun _ _ => rfl)) pe_int (fun _ _ => rfl)) pa_nil)) (pe_op op_sub (pe_op op_add (pv 6) pe_int) (pe_callTy call_int1 (by rfl) T.b_int (by decide +kernel) (pa_cons (pe_and (pv 3) (pe_one (pe_cmpR op_gt (pv 6) pe_int (nomark _)))) pa_nil)))))
      (pss_cons (ps_if (PW.pt (pw_and (pt_val (pv 2)) (pw_and1 (pt_cmpR op_gt (pv 6) pe_int (nomark _))))) (pss_one (ps_set (i := 7) nd rfl (Or.inl rfl) (pe_callB (call_max2 rfl) (by rfl) T.b_max (by decide +kernel) (pa_cons pe_int (pa_cons (pe_op op_sub (pe_op op_sub (pv 6) pe_int) (pe_op op_fdivW (pe_op op_mod (pe_callTy call_int1 (by rfl) T.b_int (by decide +kernel) (pa_cons (pe_ix ix_seq (pe_ix ix_seq (pv 1) (pv 6) (fun _ _ => rfl)) pe_int (fun _ _ => rfl)) pa_nil)) pe_int) pe_int)) pa_nil))))) pss_nil)
      (pss_cons (ps_if (PW.pt (pw_and (pt_val (pv 4)) (pw_and1 (pt_cmpR op_gt (pv 6) pe_int (nomark _))))) (pss_cons (ps_set (i := 7) nd rfl (Or.inl rfl) (pe_callB (call_max2 rfl) (by rfl) T.b_max (by decide +kernel) (pa_cons pe_int (pa_cons (pe_op op_sub (pe_op op_sub (pv 6) pe_int) (pe_op op_fdivW (pe_op op_mod (pe_callTy call_int1 (by rfl) T.b_int (by decide +kernel) (pa_cons (pe_ix ix_seq (pe_ix ix_seq (pv 1) (pv 6) (fun _ _ => rfl)) pe_int (fun _ _ => rfl)) pa_nil)) pe_int) pe_int)) pa_nil))))
      (pss_cons (ps_set (i := 8) nd rfl (Or.inl rfl) (pe_ix ix_seq (pe_ix ix_seq (pe_ix ix_seq (pv 0) pe_int (fun _ _ => rfl)) (pe_callB (call_max2 rfl) (by rfl) T.b_max (by decide +kernel) (pa_cons pe_int (pa_cons (pe_op op_sub (pe_op op_sub (pv 6) pe_int) (pe_op op_fdivW (pe_op op_mod (pe_callTy call_int1 (by rfl) T.b_int (by decide +kernel) (pa_cons (pe_ix ix_seq (pe_ix ix_seq (pv 1) (pv 6) (fun _ _ => rfl)) pe_int (fun _ _ => rfl)) pa_nil)) pe_int) pe_int)) pa_nil))) (fun _ _ => rfl)) pe_int (fun _ _ => rfl)))
      (pss_one (ps_expr (pe_bm PySem.F.plainAttrs_list PySem.F.slot_list_insert PySem.F.type_list_insert mt_insert (pv 8) (pa_cons (pe_op op_mod (pe_op op_fdivW (pe_callTy call_int1 (by rfl) T.b_int (by decide +kernel) (pa_cons (pe_ix ix_seq (pe_ix ix_seq (pv 1) (pv 6) (fun _ _ => rfl)) pe_int (fun _ _ => rfl)) pa_nil)) pe_int) (pe_op op_add (pe_callB call_len_seq (by rfl) T.b_len PySem.boot_len (pa_cons (pv 8) pa_nil)) pe_int)) (pa_cons (pe_op op_add (pe_op op_mul pe_int (pv 6)) pe_int) pa_nil))))))) pss_nil)
      (pss_cons (ps_if (pt_cmpR op_eq (pv 7) (pv 6) (nomark _)) (pss_one (ps_set (i := 8) nd rfl (Or.inl rfl) (pe_ix ix_seq (pv 5) (pe_op op_mod (pe_callTy call_int1 (by rfl) T.b_int (by decide +kernel) (pa_cons (pe_ix ix_seq (pe_ix ix_seq (pv 1) (pv 6) (fun _ _ => rfl)) pe_int (fun _ _ => rfl)) pa_nil)) (pe_callB call_len_seq (by rfl) T.b_len PySem.boot_len (pa_cons (pv 5) pa_nil))) (fun _ _ => rfl)))) (pss_one (ps_set (i := 8) nd rfl (Or.inl rfl) (pe_ix ix_seq (pe_ix ix_seq (pe_ix ix_seq (pv 0) pe_int (fun _ _ => rfl)) (pv 7) (fun _ _ => rfl)) pe_int (fun _ _ => rfl)))))
      (pss_cons (ps_expr (pe_bm PySem.F.plainAttrs_list PySem.F.slot_list_insert PySem.F.type_list_insert mt_insert (pv 8) (pa_cons (pe_op op_mod (pe_op op_fdivW (pe_callTy call_int1 (by rfl) T.b_int (by decide +kernel) (pa_cons (pe_ix ix_seq (pe_ix ix_seq (pv 1) (pv 6) (fun _ _ => rfl)) pe_int (fun _ _ => rfl)) pa_nil)) pe_int) (pe_op op_add (pe_callB call_len_seq (by rfl) T.b_len PySem.boot_len (pa_cons (pv 8) pa_nil)) pe_int)) (pa_cons (pe_op op_add (pe_op op_mul pe_int (pv 6)) pe_int) pa_nil))))
      (pss_one (ps_if (PW.pt (pw_and (pt_cmpR op_gt (pv 6) pe_int (nomark _)) (pw_and (pt_cmpR op_eq (pe_ix ix_seq (pe_ix ix_seq (pv 1) (pv 6) (fun _ _ => rfl)) pe_int (fun _ _ => rfl)) pe_int (nomark _)) (pw_and1 (pt_not (pt_val (pv 4))))))) (pss_cons (ps_set (i := 8) nd rfl (Or.inl rfl) (pe_ix ix_seq (pe_ix ix_seq (pe_ix ix_seq (pv 0) pe_int (fun _ _ => rfl)) (pe_op op_mod (pe_callTy call_int1 (by rfl) T.b_int (by decide +kernel) (pa_cons (pe_ix ix_seq (pe_ix ix_seq (pv 1) (pv 6) (fun _ _ => rfl)) pe_int (fun _ _ => rfl)) pa_nil)) (pv 6)) (fun _ _ => rfl)) pe_int (fun _ _ => rfl)))
      (pss_one (ps_expr (pe_bm PySem.F.plainAttrs_list PySem.F.slot_list_insert PySem.F.type_list_insert mt_insert (pv 8) (pa_cons (pe_op op_mod (pe_op op_fdivW (pe_callTy call_int1 (by rfl) T.b_int (by decide +kernel) (pa_cons (pe_ix ix_seq (pe_ix ix_seq (pv 1) (pv 6) (fun _ _ => rfl)) pe_int (fun _ _ => rfl)) pa_nil)) pe_int) (pe_op op_add (pe_callB call_len_seq (by rfl) T.b_len PySem.boot_len (pa_cons (pv 8) pa_nil)) pe_int)) (pa_cons (pe_op op_add (pe_op op_mul pe_int (pv 6)) pe_int) pa_nil)))))) pss_nil))))))))))
theorem sc__law_padded : FnScope ["_law_parts", "_law_digits_here", "_law_signs", "_law_times", "_law_length", "_law_rows", "_law_row", "_law_k", "_law_words_here"] ["_law_parts", "_law_digits_here"] (defScope s__law_padded) := ⟨rfl, rfl, rfl, by decide +kernel, rfl, by decide +kernel, by decide +kernel⟩
theorem ok__law_padded (T : Tx K mg) (c__law_root_rows : Cal P w K mg base CX0 1 "_law_root_rows" ["_law_parts"] (sp__law_root_rows K)) : Cal P w K mg base CX0 2 "_law_padded" ["_law_parts", "_law_digits_here"] (sp__law_padded K) := by
  obtain ⟨fd, F⟩ := T.f__law_padded
  have nd := (sc__law_padded).nd
  refine ⟨_, fd, T.g__law_padded, F.kp, F.bindsN fun _ _ _ _ _ _ us hl => match us, hl with | [_, _], _ => rfl, F.ok sc__law_padded (fun vs H Q E h => len__law_padded K vs H Q E h) (fun cdv A outer s H vs Q E hr h => ⟨t__law_padded K, PSs.nox ?_, pure__law_padded K vs H Q E h⟩), fnAt F⟩
  have hu := hu_of hr
  exact (pss_cons (ps_set (i := 2) nd rfl (Or.inl rfl) (pe_lst (pa_cons pe_int (pa_cons pe_int (pa_cons pe_int (pa_cons (pe_un un_neg pe_int) (pa_cons pe_int (pa_cons pe_int (pa_cons pe_int pa_nil)))))))))
      (pss_cons (ps_set (i := 3) nd rfl (Or.inl rfl) (pe_ix ix_seq (pe_lst (pa_cons pe_int (pa_cons pe_int (pa_cons pe_int (pa_cons pe_int pa_nil))))) (pe_op op_mod (pe_callTy call_int1 (by rfl) T.b_int (by decide +kernel) (pa_cons (pe_ix ix_seq (pv 1) pe_int (fun _ _ => rfl)) pa_nil)) pe_int) (fun _ _ => rfl)))
      (pss_cons (ps_set (i := 4) nd rfl (Or.inl rfl) (pe_op op_mul (pe_ix ix_seq (pe_lst (pa_cons pe_int (pa_cons pe_int (pa_cons pe_int (pa_cons pe_int (pa_cons pe_int (pa_cons pe_int (pa_cons pe_int (pa_cons pe_int pa_nil))))))))) (pe_ix ix_seq (pv 1) pe_int (fun _ _ => rfl)) (fun _ _ => rfl)) (pv 3)))
      (pss_cons (ps_set (i := 5) nd rfl (Or.inl rfl) (pe_cal c__law_root_rows hr (by decide) (by rfl) pass0 (pa_cons (pv 0) pa_nil)))
      (pss_cons (ps_set (i := 6) nd rfl (Or.inl rfl) (pe_ix ix_seq (pv 5) (pe_op op_mod (pe_callTy call_int1 (by rfl) T.b_int (by decide +kernel) (pa_cons (pe_ix ix_seq (pv 1) pe_int (fun _ _ => rfl)) pa_nil)) (pe_op op_sub (pe_callB call_len_seq (by rfl) T.b_len PySem.boot_len (pa_cons (pv 5) pa_nil)) pe_int)) (fun _ _ => rfl)))
      (pss_cons (ps_for PassesOwn.never rfl (pi_range1 (by rfl) T.b_range (pa_cons (pe_op op_mul (pe_ix ix_seq (pe_lst (pa_cons pe_int (pa_cons pe_int (pa_cons pe_int (pa_cons pe_int (pa_cons pe_int (pa_cons pe_int (pa_cons pe_int (pa_cons pe_int pa_nil))))))))) (pe_ix ix_seq (pv 1) pe_int (fun _ _ => rfl)) (fun _ _ => rfl)) (pv 3)) pa_nil)) (pg_name (i := 7) nd rfl (Or.inl rfl)) (pss_one (ps_expr (pe_bm PySem.F.plainAttrs_list PySem.F.slot_list_insert PySem.F.type_list_insert mt_insert (pv 6) (pa_cons pe_int (pa_cons (pe_ix ix_seq (pv 2) (pe_op op_mod (pe_callTy call_int1 (by rfl) T.b_int (by decide +kernel) (pa_cons (pe_op op_add (pv 7) (pe_ix ix_seq (pv 1) pe_int (fun _ _ => rfl))) pa_nil)) pe_int) (fun _ _ => rfl)) pa_nil))))))
      (pss_one (ps_if (pt_cmpR op_gt (pe_callB call_len_seq (by rfl) T.b_len PySem.boot_len (pa_cons (pe_ix ix_seq (pv 0) pe_int (fun _ _ => rfl)) pa_nil)) pe_int (nomark _)) (pss_cons (ps_set (i := 8) nd rfl (Or.inl rfl) (pe_ix ix_seq (pe_ix ix_seq (pe_ix ix_seq (pv 0) pe_int (fun _ _ => rfl)) (pe_op op_mod (pe_callTy call_int1 (by rfl) T.b_int (by decide +kernel) (pa_cons (pe_ix ix_seq (pv 1) pe_int (fun _ _ => rfl)) pa_nil)) (pe_callB call_len_seq (by rfl) T.b_len PySem.boot_len (pa_cons (pe_ix ix_seq (pv 0) pe_int (fun _ _ => rfl)) pa_nil))) (fun _ _ => rfl)) pe_int (fun _ _ => rfl)))
      (pss_one (ps_for PassesOwn.never rfl (pi_range1 (by rfl) T.b_range (pa_cons (pv 4) pa_nil)) (pg_name (i := 7) nd rfl (Or.inl rfl)) (pss_one (ps_expr (pe_bm PySem.F.plainAttrs_list PySem.F.slot_list_insert PySem.F.type_list_insert mt_insert (pv 8) (pa_cons pe_int (pa_cons (pe_ix ix_seq (pv 2) (pe_op op_mod (pe_callTy call_int1 (by rfl) T.b_int (by decide +kernel) (pa_cons (pe_op op_add (pv 7) (pe_ix ix_seq (pv 1) pe_int (fun _ _ => rfl))) pa_nil)) pe_int) (fun _ _ => rfl)) pa_nil)))))))) pss_nil))))))))
theorem sc__law_drawn : FnScope ["_law_script", "_law_at", "_law_first", "_law_many", "_law_free", "_law_narrow", "_law_dense", "_law_thin", "_law_names", "_law_objects", "_law_links", "_law_k", "_law_row", "_law_statics", "_law_frames", "_law_slots", "_law_stack", "_law_reach", "_law_lists", "_law_parts", "_law_one"] ["_law_script", "_law_at"] (defScope s__law_drawn) := ⟨rfl, rfl, rfl, by decide +kernel, rfl, by decide +kernel, by decide +kernel⟩
theorem ok__law_drawn (T : Tx K mg) (c__law_cell : Cal P w K mg base CX0 1 "_law_cell" ["_law_script", "_law_k"] (sp__law_cell K)) (c__law_digits : Cal P w K mg base CX0 1 "_law_digits" ["_law_cell_here", "_law_sizes"] (sp__law_digits K)) (c__law_linked : Cal P w K mg base CX0 2 "_law_linked" ["_law_parts", "_law_links", "_law_tall", "_law_narrow", "_law_woven"] (sp__law_linked K)) (c__law_numbered : Cal P w K mg base CX0 3 "_law_numbered" ["_law_parts"] (sp__law_numbered K)) (c__law_padded : Cal P w K mg base CX0 2 "_law_padded" ["_law_parts", "_law_digits_here"] (sp__law_padded K)) (c__law_words : Cal P w K mg base CX0 1 "_law_words" ["_law_row", "_law_at", "_law_count", "_law_many", "_law_dense"] (sp__law_words K)) : Cal P w K mg base CX0 4 "_law_drawn" ["_law_script", "_law_at"] (sp__law_drawn K) := by
  obtain ⟨fd, F⟩ := T.f__law_drawn
  have nd := (sc__law_drawn).nd
  refine ⟨_, fd, T.g__law_drawn, F.kp, F.bindsN fun _ _ _ _ _ _ us hl => match us, hl with | [_, _], _ => rfl, F.ok sc__law_drawn (fun vs H Q E h => len__law_drawn K vs H Q E h) (fun cdv A outer s H vs Q E hr h => ⟨t__law_drawn K, PSs.nox ?_, pure__law_drawn K vs H Q E h⟩), fnAt F⟩
  have hu := hu_of hr
  exact (pss_cons (ps_set (i := 2) nd rfl (Or.inl rfl) (pe_cal c__law_digits hr (by decide) (by rfl) pass0 (pa_cons (pe_cal c__law_cell hr (by decide) (by rfl) pass0 (pa_cons (pv 0) (pa_cons (pv 1) pa_nil))) (pa_cons (pe_lst (pa_cons pe_int (pa_cons pe_int (pa_cons pe_int (pa_cons pe_int (pa_cons pe_int (pa_cons pe_int (pa_cons pe_int (pa_cons pe_int (pa_cons pe_int (pa_cons pe_int (pa_cons pe_int pa_nil)))))))))))) pa_nil))))
      (pss_cons (ps_set (i := 3) nd rfl (Or.inl rfl) (pe_ix ix_seq (pe_lst (pa_cons pe_int (pa_cons pe_int (pa_cons pe_int (pa_cons pe_int (pa_cons pe_int (pa_cons pe_int (pa_cons pe_int (pa_cons pe_int (pa_cons pe_int (pa_cons pe_int (pa_cons pe_int (pa_cons pe_int (pa_cons pe_int pa_nil)))))))))))))) (pe_ix ix_seq (pv 2) pe_int (fun _ _ => rfl)) (fun _ _ => rfl)))
      (pss_cons (ps_if (PW.pt (pw_or (pt_cmpR op_eq (pe_ix ix_seq (pv 2) pe_int (fun _ _ => rfl)) pe_int (nomark _)) (pw_or1 (PW.pt (pw_and (pt_cmpR op_in_seq (pe_ix ix_seq (pv 2) pe_int (fun _ _ => rfl)) (pe_lst (pa_cons pe_int (pa_cons pe_int pa_nil))) (by rfl)) (pw_and1 (pt_cmpR op_gt (pe_ix ix_seq (pv 2) pe_int (fun _ _ => rfl)) pe_int (nomark _)))))))) (pss_one (ps_set (i := 3) nd rfl (Or.inl rfl) (pe_op op_add (pv 3) pe_int))) pss_nil)
      (pss_cons (ps_set (i := 4) nd rfl (Or.inl rfl) (pe_cmpR op_eq (pe_ix ix_seq (pv 2) pe_int (fun _ _ => rfl)) pe_int (nomark _)))
      (pss_cons (ps_set (i := 5) nd rfl (Or.inl rfl) (pe_cmpR op_gt (pe_ix ix_seq (pv 2) pe_int (fun _ _ => rfl)) pe_int (nomark _)))
      (pss_cons (ps_set (i := 6) nd rfl (Or.inl rfl) (pe_ix ix_seq (pe_lst (pa_cons pe_int (pa_cons pe_int (pa_cons pe_int pa_nil)))) (pe_ix ix_seq (pv 2) pe_int (fun _ _ => rfl)) (fun _ _ => rfl)))
      (pss_cons (ps_set (i := 7) nd rfl (Or.inl rfl) (pe_ix ix_seq (pe_lst (pa_cons pe_int (pa_cons pe_int (pa_cons pe_int pa_nil)))) (pe_op op_add (pe_callTy call_int1 (by rfl) T.b_int (by decide +kernel) (pa_cons (pv 4) pa_nil)) (pe_op op_mul pe_int (pe_callTy call_int1 (by rfl) T.b_int (by decide +kernel) (pa_cons (pv 5) pa_nil)))) (fun _ _ => rfl)))
      (pss_cons (ps_set (i := 8) nd rfl (Or.inl rfl) (pe_lst (pa_cons pe_str (pa_cons pe_str (pa_cons pe_str (pa_cons pe_str (pa_cons pe_str (pa_cons pe_str pa_nil))))))))
      (pss_cons (ps_set (i := 9) nd rfl (Or.inl rfl) (pe_lst pa_nil))
      (pss_cons (ps_set (i := 10) nd rfl (Or.inl rfl) (pe_lst pa_nil))
      (pss_cons (ps_for PassesOwn.never rfl (pi_range1 (by rfl) T.b_range (pa_cons (pv 3) pa_nil)) (pg_name (i := 11) nd rfl (Or.inl rfl)) (pss_cons (ps_set (i := 12) nd rfl (Or.inr rfl) (pe_cal c__law_digits hr (by decide) (by rfl) pass0 (pa_cons (pe_cal c__law_cell hr (by decide) (by rfl) pass0 (pa_cons (pv 0) (pa_cons (pe_op op_add (pe_op op_add (pv 1) pe_int) (pv 11)) pa_nil))) (pa_cons (pe_op op_cat (pe_lst (pa_cons pe_int (pa_cons pe_int (pa_cons pe_int (pa_cons pe_int (pa_cons pe_int (pa_cons pe_int pa_nil))))))) (pe_op op_rep (pe_lst (pa_cons pe_int (pa_cons pe_int (pa_cons pe_int pa_nil)))) pe_int)) pa_nil))))
      (pss_cons (ps_expr (pe_bm PySem.F.plainAttrs_list PySem.F.slot_list_append PySem.F.type_list_append mt_append (pv 9) (pa_cons (pe_lst (pa_cons (pe_ix ix_seq (pv 8) (pe_ix ix_seq (pv 12) pe_int (fun _ _ => rfl)) (fun _ _ => rfl)) (pa_cons (pe_cal c__law_words hr (by decide) (by rfl) pass0 (pa_cons (pv 12) (pa_cons pe_int (pa_cons (pe_ix ix_seq (pv 12) pe_int (fun _ _ => rfl)) (pa_cons (pv 3) (pa_cons (pe_ix ix_seq (pe_lst (pa_cons (pv 6) (pa_cons pe_int pa_nil))) (pe_callTy call_int1 (by rfl) T.b_int (by decide +kernel) (pa_cons (pv 5) pa_nil)) (fun _ _ => rfl)) pa_nil)))))) pa_nil))) pa_nil)))
      (pss_one (ps_expr (pe_bm PySem.F.plainAttrs_list PySem.F.slot_list_append PySem.F.type_list_append mt_append (pv 10) (pa_cons (pe_slice sl_list (pv 12) (po_some pe_int) (po_some pe_int)) pa_nil)))))))
      (pss_cons (ps_set (i := 12) nd rfl (Or.inr rfl) (pe_cal c__law_digits hr (by decide) (by rfl) pass0 (pa_cons (pe_cal c__law_cell hr (by decide) (by rfl) pass0 (pa_cons (pv 0) (pa_cons (pe_op op_add (pv 1) pe_int) pa_nil))) (pa_cons (pe_op op_rep (pe_lst (pa_cons pe_int (pa_cons pe_int (pa_cons pe_int pa_nil)))) pe_int) pa_nil))))
      (pss_cons (ps_set (i := 13) nd rfl (Or.inl rfl) (pe_cal c__law_words hr (by decide) (by rfl) pass0 (pa_cons (pv 12) (pa_cons pe_int (pa_cons (pe_ix ix_seq (pv 2) pe_int (fun _ _ => rfl)) (pa_cons (pv 3) (pa_cons (pv 7) pa_nil)))))))
      (pss_cons (ps_set (i := 14) nd rfl (Or.inl rfl) (pe_lst pa_nil))
      (pss_cons (ps_for PassesOwn.never rfl (pi_range1 (by rfl) T.b_range (pa_cons (pe_ix ix_seq (pe_lst (pa_cons pe_int (pa_cons pe_int (pa_cons pe_int (pa_cons pe_int (pa_cons pe_int (pa_cons pe_int pa_nil))))))) (pe_ix ix_seq (pv 2) pe_int (fun _ _ => rfl)) (fun _ _ => rfl)) pa_nil)) (pg_name (i := 11) nd rfl (Or.inl rfl)) (pss_cons (ps_set (i := 12) nd rfl (Or.inr rfl) (pe_cal c__law_digits hr (by decide) (by rfl) pass0 (pa_cons (pe_cal c__law_cell hr (by decide) (by rfl) pass0 (pa_cons (pv 0) (pa_cons (pe_op op_add (pe_op op_add (pv 1) pe_int) (pv 11)) pa_nil))) (pa_cons (pe_op op_cat (pe_lst (pa_cons pe_int (pa_cons pe_int (pa_cons pe_int (pa_cons pe_int pa_nil))))) (pe_op op_rep (pe_lst (pa_cons pe_int (pa_cons pe_int (pa_cons pe_int pa_nil)))) pe_int)) pa_nil))))
      (pss_cons (ps_set (i := 15) nd rfl (Or.inl rfl) (pe_cal c__law_words hr (by decide) (by rfl) pass0 (pa_cons (pv 12) (pa_cons pe_int (pa_cons (pe_ix ix_seq (pv 12) pe_int (fun _ _ => rfl)) (pa_cons (pv 3) (pa_cons (pv 7) pa_nil)))))))
      (pss_cons (ps_set (i := 16) nd rfl (Or.inl rfl) (pe_cal c__law_words hr (by decide) (by rfl) pass0 (pa_cons (pv 12) (pa_cons pe_int (pa_cons (pe_ix ix_seq (pv 12) pe_int (fun _ _ => rfl)) (pa_cons (pv 3) (pa_cons (pv 7) pa_nil)))))))
      (pss_one (ps_expr (pe_bm PySem.F.plainAttrs_list PySem.F.slot_list_append PySem.F.type_list_append mt_append (pv 14) (pa_cons (pe_lst (pa_cons (pe_ix ix_seq (pe_lst (pa_cons pe_str (pa_cons pe_str (pa_cons pe_str (pa_cons pe_str pa_nil))))) (pe_ix ix_seq (pv 12) pe_int (fun _ _ => rfl)) (fun _ _ => rfl)) (pa_cons (pe_ix ix_seq (pv 12) pe_int (fun _ _ => rfl)) (pa_cons (pv 15) (pa_cons (pv 16) pa_nil))))) pa_nil))))))))
      (pss_cons (ps_if (pt_cmpR op_lt (pe_ix ix_seq (pv 2) pe_int (fun _ _ => rfl)) pe_int (nomark _)) (pss_one (ps_setLc (i := 14) (own := [("_law_one", 20)]) (g := (gName 20)) (tt := tYes) (te := (tLst (tCons (tOp (rIx K) (tVar 20) (tC (.int 0))) (tCons (tOp (rIx K) (tVar 20) (tC (.int 1))) (tCons (tCB (rLstQ K) (tCons (tOp (rIx K) (tVar 20) (tC (.int 2))) tNil)) (tCons (tCB (rLstQ K) (tCons (tOp (rIx K) (tVar 20) (tC (.int 3))) tNil)) tNil)))))) rfl nd rfl rfl (sw_true rfl rfl rfl (by decide +kernel)) (pi_seq (pe_op op_rep (pv 14) pe_int)) (blkOk_by (own := [("_law_one", 20)]) (N := ["_law_script", "_law_at", "_law_first", "_law_many", "_law_free", "_law_narrow", "_law_dense", "_law_thin", "_law_names", "_law_objects", "_law_links", "_law_k", "_law_row", "_law_statics", "_law_frames", "_law_slots", "_law_stack", "_law_reach", "_law_lists", "_law_parts", "_law_one"]) (sc := defScope s__law_drawn) (by decide +kernel)) (fun _ _ _ _ _ => (pg_name (i := 20) nd rfl (Or.inl rfl))) (fun _ _ _ _ _ => pts_nil) (fun _ _ _ _ _ => (pe_lst (pa_cons (pe_ix ix_seq (pv 20) pe_int (fun _ _ => rfl)) (pa_cons (pe_ix ix_seq (pv 20) pe_int (fun _ _ => rfl)) (pa_cons (pe_callTy call_list_of (by rfl) T.b_list (by decide +kernel) (pa_cons (pe_ix ix_seq (pv 20) pe_int (fun _ _ => rfl)) pa_nil)) (pa_cons (pe_callTy call_list_of (by rfl) T.b_list (by decide +kernel) (pa_cons (pe_ix ix_seq (pv 20) pe_int (fun _ _ => rfl)) pa_nil)) pa_nil)))))))) pss_nil)
      (pss_cons (ps_set (i := 12) nd rfl (Or.inr rfl) (pe_cal c__law_digits hr (by decide) (by rfl) pass0 (pa_cons (pe_cal c__law_cell hr (by decide) (by rfl) pass0 (pa_cons (pv 0) (pa_cons (pe_op op_add (pv 1) pe_int) pa_nil))) (pa_cons (pe_op op_rep (pe_lst (pa_cons pe_int pa_nil)) pe_int) pa_nil))))
      (pss_cons (ps_set (i := 17) nd rfl (Or.inr rfl) (pv 3))
      (pss_cons (ps_if (PW.pt (pw_and (pt_val (pv 5)) (pw_and1 (pt_cmpR op_lt (pe_ix ix_seq (pv 2) pe_int (fun _ _ => rfl)) pe_int (nomark _))))) (pss_one (ps_set (i := 17) nd rfl (Or.inr rfl) (pe_callB (call_min2 rfl) (by rfl) T.b_min (by decide +kernel) (pa_cons pe_int (pa_cons (pv 3) pa_nil))))) pss_nil)
      (pss_cons (ps_set (i := 18) nd rfl (Or.inl rfl) (pe_lst (pa_cons (pe_lc (own := [("_law_k", 11)]) (g := (gName 11)) (tt := (tTest (tOp rGtI (tVar 17) (tC (.int 0))))) (te := (tOp rAddI (tOp rMulI (tC (.int 2)) (tOp rModI (tCB rIntQ (tCons (tOp (rIx K) (tVar 12) (tVar 11)) tNil)) (tVar 17))) (tC (.int 2)))) rfl nd (pi_range1 (by rfl) T.b_range (pa_cons (pe_ix ix_seq (pv 2) pe_int (fun _ _ => rfl)) pa_nil)) (blkOk_by (own := [("_law_k", 11)]) (N := ["_law_script", "_law_at", "_law_first", "_law_many", "_law_free", "_law_narrow", "_law_dense", "_law_thin", "_law_names", "_law_objects", "_law_links", "_law_k", "_law_row", "_law_statics", "_law_frames", "_law_slots", "_law_stack", "_law_reach", "_law_lists", "_law_parts", "_law_one"]) (sc := defScope s__law_drawn) (by decide +kernel)) (fun _ _ _ _ _ => (pg_name (i := 11) nd rfl (Or.inl rfl))) (fun _ _ _ _ _ => (pts_one (pt_cmpR op_gt (pv 17) pe_int (nomark _)))) (fun _ _ _ _ _ => (pe_op op_add (pe_op op_mul pe_int (pe_op op_mod (pe_callTy call_int1 (by rfl) T.b_int (by decide +kernel) (pa_cons (pe_ix ix_seq (pv 12) (pv 11) (fun _ _ => rfl)) pa_nil)) (pv 17))) pe_int))) (pa_cons (pe_lc (own := [("_law_k", 11)]) (g := (gName 11)) (tt := (tTest (tOp rGtI (tVar 17) (tC (.int 0))))) (te := (tOp rAddI (tOp rMulI (tC (.int 2)) (tOp rModI (tCB rIntQ (tCons (tOp (rIx K) (tVar 12) (tOp rAddI (tC (.int 2)) (tVar 11))) tNil)) (tVar 17))) (tC (.int 2)))) rfl nd (pi_range1 (by rfl) T.b_range (pa_cons (pe_ix ix_seq (pv 2) pe_int (fun _ _ => rfl)) pa_nil)) (blkOk_by (own := [("_law_k", 11)]) (N := ["_law_script", "_law_at", "_law_first", "_law_many", "_law_free", "_law_narrow", "_law_dense", "_law_thin", "_law_names", "_law_objects", "_law_links", "_law_k", "_law_row", "_law_statics", "_law_frames", "_law_slots", "_law_stack", "_law_reach", "_law_lists", "_law_parts", "_law_one"]) (sc := defScope s__law_drawn) (by decide +kernel)) (fun _ _ _ _ _ => (pg_name (i := 11) nd rfl (Or.inl rfl))) (fun _ _ _ _ _ => (pts_one (pt_cmpR op_gt (pv 17) pe_int (nomark _)))) (fun _ _ _ _ _ => (pe_op op_add (pe_op op_mul pe_int (pe_op op_mod (pe_callTy call_int1 (by rfl) T.b_int (by decide +kernel) (pa_cons (pe_ix ix_seq (pv 12) (pe_op op_add pe_int (pv 11)) (fun _ _ => rfl)) pa_nil)) (pv 17))) pe_int))) pa_nil))))
      (pss_cons (ps_set (i := 19) nd rfl (Or.inl rfl) (pe_lst (pa_cons (pv 13) (pa_cons (pv 14) (pa_cons (pe_ix ix_seq (pv 18) pe_int (fun _ _ => rfl)) (pa_cons (pe_ix ix_seq (pv 18) pe_int (fun _ _ => rfl)) (pa_cons (pv 9) pa_nil)))))))
      (pss_cons (ps_if (pt_not (pt_val (pv 4))) (pss_one (ps_expr (pe_cal c__law_linked hr (by decide) (by rfl) pass0 (pa_cons (pv 19) (pa_cons (pv 10) (pa_cons (pe_cmpR op_in_seq (pe_ix ix_seq (pv 2) pe_int (fun _ _ => rfl)) (pe_lst (pa_cons pe_int (pa_cons pe_int (pa_cons pe_int pa_nil)))) (by rfl)) (pa_cons (pv 5) (pa_cons (pe_cmpR op_in_seq (pe_ix ix_seq (pv 2) pe_int (fun _ _ => rfl)) (pe_lst (pa_cons pe_int (pa_cons pe_int (pa_cons pe_int pa_nil)))) (by rfl)) pa_nil)))))))) pss_nil)
      (pss_cons (ps_expr (pe_cal c__law_padded hr (by decide) (by rfl) pass0 (pa_cons (pv 19) (pa_cons (pe_slice sl_list (pv 2) (po_some pe_int) po_none) pa_nil))))
      (pss_one (ps_ret (pe_cal c__law_numbered hr (by decide) (by rfl) pass0 (pa_cons (pv 19) pa_nil)))))))))))))))))))))))))))
theorem sc__law_mirrored : FnScope ["_law_parts", "_law_frames", "_law_objects", "_law_frame", "_law_one"] ["_law_parts"] (defScope s__law_mirrored) := ⟨rfl, rfl, rfl, by decide +kernel, rfl, by decide +kernel, by decide +kernel⟩
theorem ok__law_mirrored (T : Tx K mg) (c__law_numbered : Cal P w K mg base CX0 3 "_law_numbered" ["_law_parts"] (sp__law_numbered K)) : Cal P w K mg base CX0 4 "_law_mirrored" ["_law_parts"] (sp__law_mirrored K) := by
  obtain ⟨fd, F⟩ := T.f__law_mirrored
  have nd := (sc__law_mirrored).nd
  refine ⟨_, fd, T.g__law_mirrored, F.kp, F.bindsN fun _ _ _ _ _ _ us hl => match us, hl with | [_], _ => rfl, F.ok sc__law_mirrored (fun vs H Q E h => len__law_mirrored K vs H Q E h) (fun cdv A outer s H vs Q E hr h => ⟨t__law_mirrored K, PSs.nox ?_, pure__law_mirrored K vs H Q E h⟩), fnAt F⟩
  have hu := hu_of hr
  exact (pss_cons (ps_setLc (i := 1) (own := [("_law_frame", 3)]) (g := (gName 3)) (tt := tYes) (te := (tLst (tCons (tOp (rIx K) (tVar 3) (tC (.int 0))) (tCons (tOp (rIx K) (tVar 3) (tC (.int 1))) (tCons (tRevL K (tCB (rLstQ K) (tCons (tOp (rIx K) (tVar 3) (tC (.int 2))) tNil))) (tCons (tRevL K (tCB (rLstQ K) (tCons (tOp (rIx K) (tVar 3) (tC (.int 3))) tNil))) tNil)))))) rfl nd rfl rfl (sw_true rfl rfl rfl (by decide +kernel)) (pi_seq (pe_ix ix_seq (pv 0) pe_int (fun _ _ => rfl))) (blkOk_by (own := [("_law_frame", 3)]) (N := ["_law_parts", "_law_frames", "_law_objects", "_law_frame", "_law_one"]) (sc := defScope s__law_mirrored) (by decide +kernel)) (fun _ _ _ _ _ => (pg_name (i := 3) nd rfl (Or.inl rfl))) (fun _ _ _ _ _ => pts_nil) (fun _ _ _ _ _ => (pe_lst (pa_cons (pe_ix ix_seq (pv 3) pe_int (fun _ _ => rfl)) (pa_cons (pe_ix ix_seq (pv 3) pe_int (fun _ _ => rfl)) (pa_cons (pe_revL (pe_callTy call_list_of (by rfl) T.b_list (by decide +kernel) (pa_cons (pe_ix ix_seq (pv 3) pe_int (fun _ _ => rfl)) pa_nil))) (pa_cons (pe_revL (pe_callTy call_list_of (by rfl) T.b_list (by decide +kernel) (pa_cons (pe_ix ix_seq (pv 3) pe_int (fun _ _ => rfl)) pa_nil))) pa_nil)))))))
      (pss_cons (ps_setLc (i := 2) (own := [("_law_one", 4)]) (g := (gName 4)) (tt := tYes) (te := (tLst (tCons (tOp (rIx K) (tVar 4) (tC (.int 0))) (tCons (tRevL K (tCB (rLstQ K) (tCons (tOp (rIx K) (tVar 4) (tC (.int 1))) tNil))) tNil)))) rfl nd rfl rfl (sw_true rfl rfl rfl (by decide +kernel)) (pi_seq (pe_ix ix_seq (pv 0) pe_int (fun _ _ => rfl))) (blkOk_by (own := [("_law_one", 4)]) (N := ["_law_parts", "_law_frames", "_law_objects", "_law_frame", "_law_one"]) (sc := defScope s__law_mirrored) (by decide +kernel)) (fun _ _ _ _ _ => (pg_name (i := 4) nd rfl (Or.inl rfl))) (fun _ _ _ _ _ => pts_nil) (fun _ _ _ _ _ => (pe_lst (pa_cons (pe_ix ix_seq (pv 4) pe_int (fun _ _ => rfl)) (pa_cons (pe_revL (pe_callTy call_list_of (by rfl) T.b_list (by decide +kernel) (pa_cons (pe_ix ix_seq (pv 4) pe_int (fun _ _ => rfl)) pa_nil))) pa_nil)))))
      (pss_one (ps_ret (pe_cal c__law_numbered hr (by decide) (by rfl) pass0 (pa_cons (pe_lst (pa_cons (pe_revL (pe_callTy call_list_of (by rfl) T.b_list (by decide +kernel) (pa_cons (pe_ix ix_seq (pv 0) pe_int (fun _ _ => rfl)) pa_nil))) (pa_cons (pv 1) (pa_cons (pe_revL (pe_callTy call_list_of (by rfl) T.b_list (by decide +kernel) (pa_cons (pe_ix ix_seq (pv 0) pe_int (fun _ _ => rfl)) pa_nil))) (pa_cons (pe_revL (pe_callTy call_list_of (by rfl) T.b_list (by decide +kernel) (pa_cons (pe_ix ix_seq (pv 0) pe_int (fun _ _ => rfl)) pa_nil))) (pa_cons (pv 2) pa_nil)))))) pa_nil))))))
theorem sc__law_stays : FnScope ["_law_picture", "_law_parts"] ["_law_picture", "_law_parts"] (defScope s__law_stays) := ⟨rfl, rfl, rfl, by decide +kernel, rfl, by decide +kernel, by decide +kernel⟩
theorem ok__law_stays (T : Tx K mg)  : Cal P w K mg base CX0 1 "_law_stays" ["_law_picture", "_law_parts"] (sp__law_stays K) := by
  obtain ⟨fd, F⟩ := T.f__law_stays
  have nd := (sc__law_stays).nd
  refine ⟨_, fd, T.g__law_stays, F.kp, F.bindsN fun _ _ _ _ _ _ us hl => match us, hl with | [_, _], _ => rfl, F.ok sc__law_stays (fun vs H Q E h => len__law_stays K vs H Q E h) (fun cdv A outer s H vs Q E hr h => ⟨t__law_stays K, PSs.nox ?_, pure__law_stays K vs H Q E h⟩), fnAt F⟩
  have hu := hu_of hr
  exact (pss_one (ps_ret (pe_and (pe_cmpR (op_eqD hr.units) (pe_fld (pv 0) rfl) (pe_ix ix_seq (pv 1) pe_int (fun _ _ => rfl)) (nomark _)) (pe_and (pe_cmpR (op_eqD hr.units) (pe_fld (pv 0) rfl) (pe_ix ix_seq (pv 1) pe_int (fun _ _ => rfl)) (nomark _)) (pe_and (pe_cmpR (op_eqD hr.units) (pe_fld (pv 0) rfl) (pe_ix ix_seq (pv 1) pe_int (fun _ _ => rfl)) (nomark _)) (pe_and (pe_cmpR (op_eqD hr.units) (pe_fld (pv 0) rfl) (pe_ix ix_seq (pv 1) pe_int (fun _ _ => rfl)) (nomark _)) (pe_one (pe_cmpR (op_eqD hr.units) (pe_fld (pv 0) rfl) (pe_ix ix_seq (pv 1) pe_int (fun _ _ => rfl)) (nomark _)))))))))
theorem sc__law_ladder : FnScope ["_law_many", "_law_turn", "_law_objects", "_law_k", "_law_words_here", "_law_j"] ["_law_many", "_law_turn"] (defScope s__law_ladder) := ⟨rfl, rfl, rfl, by decide +kernel, rfl, by decide +kernel, by decide +kernel⟩
theorem ok__law_ladder (T : Tx K mg) (c__law_numbered : Cal P w K mg base CX0 3 "_law_numbered" ["_law_parts"] (sp__law_numbered K)) : Cal P w K mg base CX0 4 "_law_ladder" ["_law_many", "_law_turn"] (sp__law_ladder K) := by
  obtain ⟨fd, F⟩ := T.f__law_ladder
  have nd := (sc__law_ladder).nd
  refine ⟨_, fd, T.g__law_ladder, F.kp, F.bindsN fun _ _ _ _ _ _ us hl => match us, hl with | [_, _], _ => rfl, F.ok sc__law_ladder (fun vs H Q E h => len__law_ladder K vs H Q E h) (fun cdv A outer s H vs Q E hr h => ⟨t__law_ladder K, PSs.nox ?_, pure__law_ladder K vs H Q E h⟩), fnAt F⟩
  have hu := hu_of hr
  exact (pss_cons (ps_set (i := 2) nd rfl (Or.inl rfl) (pe_lst pa_nil))
      (pss_cons (ps_for PassesOwn.never rfl (pi_range1 (by rfl) T.b_range (pa_cons (pv 0) pa_nil)) (pg_name (i := 3) nd rfl (Or.inl rfl)) (pss_cons (ps_setLc (i := 4) (own := [("_law_j", 5)]) (g := (gName 5)) (tt := (tTest (tOp rLtI (tVar 5) (tVar 0)))) (te := (tOp rAddI (tOp rMulI (tC (.int 2)) (tVar 5)) (tC (.int 2)))) rfl nd rfl rfl (sw_true rfl rfl rfl (by decide +kernel)) (pi_seq (pe_lst (pa_cons (pe_op op_add (pv 3) pe_int) (pa_cons (pe_op op_add (pv 3) pe_int) pa_nil)))) (blkOk_by (own := [("_law_j", 5)]) (N := ["_law_many", "_law_turn", "_law_objects", "_law_k", "_law_words_here", "_law_j"]) (sc := defScope s__law_ladder) (by decide +kernel)) (fun _ _ _ _ _ => (pg_name (i := 5) nd rfl (Or.inl rfl))) (fun _ _ _ _ _ => (pts_one (pt_cmpR op_lt (pv 5) (pv 0) (nomark _)))) (fun _ _ _ _ _ => (pe_op op_add (pe_op op_mul pe_int (pv 5)) pe_int)))
      (pss_cons (ps_if (pt_cmpR op_eq (pe_op op_mod (pe_callTy call_int1 (by rfl) T.b_int (by decide +kernel) (pa_cons (pe_op op_add (pe_op op_mul pe_int (pv 3)) (pv 1)) pa_nil)) (pe_ix ix_seq (pe_lst (pa_cons pe_int (pa_cons pe_int pa_nil))) (pe_op op_fdivW (pe_callTy call_int1 (by rfl) T.b_int (by decide +kernel) (pa_cons (pv 1) pa_nil)) pe_int) (fun _ _ => rfl))) pe_int (nomark _)) (pss_one (ps_set (i := 4) nd rfl (Or.inl rfl) (pe_slice sl_list (pv 4) po_none (po_some pe_int)))) pss_nil)
      (pss_cons (ps_if (pt_cmpR op_eq (pe_op op_mod (pe_callTy call_int1 (by rfl) T.b_int (by decide +kernel) (pa_cons (pv 1) pa_nil)) pe_int) pe_int (nomark _)) (pss_one (ps_expr (pe_bm0 PySem.F.plainAttrs_list PySem.F.slot_list_reverse PySem.F.type_list_reverse mt_reverse (pv 4)))) pss_nil)
      (pss_one (ps_expr (pe_bm PySem.F.plainAttrs_list PySem.F.slot_list_append PySem.F.type_list_append mt_append (pv 2) (pa_cons (pe_lst (pa_cons pe_str (pa_cons (pv 4) pa_nil))) pa_nil))))))))
      (pss_one (ps_ret (pe_cal c__law_numbered hr (by decide) (by rfl) pass0 (pa_cons (pe_lst (pa_cons (pe_lst (pa_cons pe_int (pa_cons pe_int pa_nil))) (pa_cons (pe_lst pa_nil) (pa_cons (pe_lst pa_nil) (pa_cons (pe_lst pa_nil) (pa_cons (pv 2) pa_nil)))))) pa_nil))))))
theorem sc__law_kept_by : FnScope ["_law_parts", "_law_rows", "_law_told", "_law_k", "_law_order", "_law_met", "_law_j"] ["_law_parts"] (defScope s__law_kept_by) := ⟨rfl, rfl, rfl, by decide +kernel, rfl, by decide +kernel, by decide +kernel⟩
theorem ok__law_kept_by (T : Tx K mg) (c__law_held : Cal P w K mg base CX0 1 "_law_held" ["_law_rows", "_law_objects"] (sp__law_held K)) (c__law_root_rows : Cal P w K mg base CX0 1 "_law_root_rows" ["_law_parts"] (sp__law_root_rows K)) : Cal P w K mg base CX0 2 "_law_kept_by" ["_law_parts"] (sp__law_kept_by K) := by
  obtain ⟨fd, F⟩ := T.f__law_kept_by
  have nd := (sc__law_kept_by).nd
  refine ⟨_, fd, T.g__law_kept_by, F.kp, F.bindsN fun _ _ _ _ _ _ us hl => match us, hl with | [_], _ => rfl, F.ok sc__law_kept_by (fun vs H Q E h => len__law_kept_by K vs H Q E h) (fun cdv A outer s H vs Q E hr h => ⟨t__law_kept_by K, PSs.nox ?_, pure__law_kept_by K vs H Q E h⟩), fnAt F⟩
  have hu := hu_of hr
  exact (pss_cons (ps_set (i := 1) nd rfl (Or.inl rfl) (pe_cal c__law_root_rows hr (by decide) (by rfl) pass0 (pa_cons (pv 0) pa_nil)))
      (pss_cons (ps_setLc (i := 2) (own := [("_law_k", 3)]) (g := (gName 3)) (tt := tYes) (te := (tLst tNil)) rfl nd rfl rfl (sw_true rfl rfl rfl (by decide +kernel)) (pi_seq (pe_ix ix_seq (pv 0) pe_int (fun _ _ => rfl))) (blkOk_by (own := [("_law_k", 3)]) (N := ["_law_parts", "_law_rows", "_law_told", "_law_k", "_law_order", "_law_met", "_law_j"]) (sc := defScope s__law_kept_by) (by decide +kernel)) (fun _ _ _ _ _ => (pg_name (i := 3) nd rfl (Or.inl rfl))) (fun _ _ _ _ _ => pts_nil) (fun _ _ _ _ _ => (pe_lst pa_nil)))
      (pss_cons (ps_for PassesOwn.never rfl (pi_range1 (by rfl) T.b_range (pa_cons (pe_callB call_len_seq (by rfl) T.b_len PySem.boot_len (pa_cons (pe_ix ix_seq (pv 0) pe_int (fun _ _ => rfl)) pa_nil)) pa_nil)) (pg_name (i := 3) nd rfl (Or.inl rfl)) (pss_cons (ps_set (i := 4) nd rfl (Or.inl rfl) (pe_cal c__law_held hr (by decide) (by rfl) pass0 (pa_cons (pv 1) (pa_cons (pe_op op_cat (pe_op op_cat (pe_callTy call_list_of (by rfl) T.b_list (by decide +kernel) (pa_cons (pe_slice sl_tupA (pe_ix ix_seq (pv 0) pe_int (fun _ _ => rfl)) po_none (po_some (pv 3))) pa_nil)) (pe_lst (pa_cons (pe_tup (pa_cons (pe_ix ix_seq (pe_ix ix_seq (pe_ix ix_seq (pv 0) pe_int (fun _ _ => rfl)) (pv 3) (fun _ _ => rfl)) pe_int (fun _ _ => rfl)) (pa_cons (pe_tup pa_nil) pa_nil))) pa_nil))) (pe_callTy call_list_of (by rfl) T.b_list (by decide +kernel) (pa_cons (pe_slice sl_tupA (pe_ix ix_seq (pv 0) pe_int (fun _ _ => rfl)) (po_some (pe_op op_add (pv 3) pe_int)) po_none) pa_nil))) pa_nil))))
      (pss_cons (ps_set (i := 5) nd rfl (Or.inl rfl) pe_dnewK)
      (pss_cons (ps_for PassesOwn.never rfl (pi_seq (pv 4)) (pg_name (i := 6) nd rfl (Or.inl rfl)) (pss_one (ps_dput hu (pv 5) (pv 6) pe_bl rfl)))
      (pss_one (ps_for PassesOwn.never rfl (pi_range1 (by rfl) T.b_range (pa_cons (pe_callB call_len_seq (by rfl) T.b_len PySem.boot_len (pa_cons (pe_ix ix_seq (pv 0) pe_int (fun _ _ => rfl)) pa_nil)) pa_nil)) (pg_name (i := 6) nd rfl (Or.inl rfl)) (pss_one (ps_if (PW.pt (pw_and (pt_cmpR op_ne (pv 6) (pv 3) (nomark _)) (pw_and1 (pt_cmp (pc_dnotin hu (pv 6) (pv 5)))))) (pss_one (ps_expr (pe_bm PySem.F.plainAttrs_list PySem.F.slot_list_append PySem.F.type_list_append mt_append (pe_ix ix_seq (pv 2) (pv 6) (fun _ _ => rfl)) (pa_cons (pv 3) pa_nil)))) pss_nil))))))))
      (pss_one (ps_ret (pv 2))))))
theorem sc__law_right : FnScope ["_law_told", "_law_kept", "_law_k", "_law_further", "_law_j"] ["_law_told", "_law_kept"] (defScope s__law_right) := ⟨rfl, rfl, rfl, by decide +kernel, rfl, by decide +kernel, by decide +kernel⟩
theorem ok__law_right (T : Tx K mg) (c__law_whole : Cal P w K mg base CX0 1 "_law_whole" ["_law_value"] (sp__law_whole K)) : Cal P w K mg base CX0 2 "_law_right" ["_law_told", "_law_kept"] (sp__law_right K) := by
  obtain ⟨fd, F⟩ := T.f__law_right
  have nd := (sc__law_right).nd
  refine ⟨_, fd, T.g__law_right, F.kp, F.bindsN fun _ _ _ _ _ _ us hl => match us, hl with | [_, _], _ => rfl, F.ok sc__law_right (fun vs H Q E h => len__law_right K vs H Q E h) (fun cdv A outer s H vs Q E hr h => ⟨t__law_right K, PSs.nox ?_, pure__law_right K vs H Q E h⟩), fnAt F⟩
  have hu := hu_of hr
  exact (pss_cons (ps_if (PW.pt (pw_or (pt_not (pt_val (pe_callB call_isi (by rfl) T.b_isinstance (by decide +kernel) (pa_cons (pv 0) (pa_cons (pe_bltn (by rfl) T.b_tuple (by decide +kernel) rfl) pa_nil))))) (pw_or1 (pt_cmpR op_ne (pe_callB call_len_seq (by rfl) T.b_len PySem.boot_len (pa_cons (pv 0) pa_nil)) (pe_callB call_len_seq (by rfl) T.b_len PySem.boot_len (pa_cons (pv 1) pa_nil)) (nomark _))))) (pss_one (ps_ret pe_bl)) pss_nil)
      (pss_cons (ps_for PassesOwn.never rfl (pi_range1 (by rfl) T.b_range (pa_cons (pe_callB call_len_seq (by rfl) T.b_len PySem.boot_len (pa_cons (pv 1) pa_nil)) pa_nil)) (pg_name (i := 2) nd rfl (Or.inr rfl)) (pss_one (ps_if (pt_cmpR op_eq (pe_callB call_len_seq (by rfl) T.b_len PySem.boot_len (pa_cons (pe_ix ix_seq (pv 1) (pv 2) (fun _ _ => rfl)) pa_nil)) pe_int (nomark _)) (pss_one (ps_if (pt_cmpR op_notN (pe_ix ix_seq (pv 0) (pv 2) (fun _ _ => rfl)) pe_non (nomark _)) (pss_one (ps_ret pe_bl)) pss_nil)) (pss_one (ps_if (PW.pt (pw_or (pt_not (pt_val (pe_cal c__law_whole hr (by decide) (by rfl) pass0 (pa_cons (pe_ix ix_seq (pv 0) (pv 2) (fun _ _ => rfl)) pa_nil)))) (pw_or1 (pt_cmpR op_notIn_seq (pe_ix ix_seq (pv 0) (pv 2) (fun _ _ => rfl)) (pe_ix ix_seq (pv 1) (pv 2) (fun _ _ => rfl)) (by rfl))))) (pss_one (ps_ret pe_bl)) (pss_cons (ps_setLc (i := 3) (own := [("_law_j", 4)]) (g := (gName 4)) (tt := (tAnd (tTest (tOp rNe (tVar 4) (tOp (rIx K) (tVar 0) (tVar 2)))) (tTest (tOp (rIn K true) (tVar 4) (tOp (rIx K) (tVar 1) (tOp (rIx K) (tVar 0) (tVar 2))))))) (te := (tVar 4)) rfl nd rfl rfl (sw_true rfl rfl rfl (by decide +kernel)) (pi_seq (pe_ix ix_seq (pv 1) (pv 2) (fun _ _ => rfl))) (blkOk_by (own := [("_law_j", 4)]) (N := ["_law_told", "_law_kept", "_law_k", "_law_further", "_law_j"]) (sc := defScope s__law_right) (by decide +kernel)) (fun _ _ _ _ _ => (pg_name (i := 4) nd rfl (Or.inl rfl))) (fun _ _ _ _ _ => (pts_one (PW.pt (pw_and (pt_cmpR op_ne (pv 4) (pe_ix ix_seq (pv 0) (pv 2) (fun _ _ => rfl)) (nomark _)) (pw_and1 (pt_cmpR op_notIn_seq (pv 4) (pe_ix ix_seq (pv 1) (pe_ix ix_seq (pv 0) (pv 2) (fun _ _ => rfl)) (fun _ _ => rfl)) (by rfl))))))) (fun _ _ _ _ _ => (pv 4)))
      (pss_one (ps_if (pt_cmpR op_gt (pe_callB call_len_seq (by rfl) T.b_len PySem.boot_len (pa_cons (pv 3) pa_nil)) pe_int (nomark _)) (pss_one (ps_ret pe_bl)) pss_nil))))))))
      (pss_one (ps_ret pe_bl))))
theorem sc_Picture___init__ : FnScope ["self", "statics", "frames", "watched", "parted", "objects", "name", "place", "slots", "stack", "payload"] ["self", "statics", "frames", "watched", "parted", "objects"] (defScope s_Picture___init__) := ⟨rfl, rfl, rfl, by decide +kernel, rfl, by decide +kernel, by decide +kernel⟩
theorem ok_Picture___init__ (T : Tx K mg)  : CalI P w K mg base CX0 1 "Picture" (He.ga K "Picture") ["self", "statics", "frames", "watched", "parted", "objects"] (sp_Picture___init__ K) := by
  obtain ⟨fd, F⟩ := T.f_Picture___init__
  have nd := (sc_Picture___init__).nd
  refine ⟨_, fd, T.g_Picture, T.k_Picture, F.bindsN fun _ _ _ _ _ _ us hl => match us, hl with | [_, _, _, _, _, _], _ => rfl, F.ok sc_Picture___init__ (fun vs H Q E h => len_Picture___init__ K vs H Q E h) (fun cdv A outer s H vs Q E hr h => ⟨t_Picture___init__ K, PSs.nox ?_, pure_Picture___init__ K vs H Q E h⟩)⟩
  have hu := hu_of hr
  exact (pss_cons (ps_fld (pv 0) (pe_callTy call_tuple_of (by rfl) T.b_tuple (by decide +kernel) (pa_cons (pv 1) pa_nil)) rfl)
      (pss_cons (ps_fld (pv 0) (pe_callTy call_tuple_of (by rfl) T.b_tuple (by decide +kernel) (pa_cons (pe_lc (own := [("name", 6), ("place", 7), ("slots", 8), ("stack", 9)]) (g := (gSq K 4 (gCons (gName 6) (gCons (gName 7) (gCons (gName 8) (gCons (gName 9) gNil)))))) (tt := tYes) (te := (tTup (tCons (tVar 6) (tCons (tVar 7) (tCons (tCB (rTupQ K) (tCons (tVar 8) tNil)) (tCons (tCB (rTupQ K) (tCons (tVar 9) tNil)) tNil)))))) rfl nd (pi_seq (pv 2)) (blkOk_by (own := [("name", 6), ("place", 7), ("slots", 8), ("stack", 9)]) (N := ["self", "statics", "frames", "watched", "parted", "objects", "name", "place", "slots", "stack", "payload"]) (sc := defScope s_Picture___init__) (by decide +kernel)) (fun _ _ _ _ _ => (pg_sq rfl (pgs_cons (pg_name (i := 6) nd rfl (Or.inl rfl)) (pgs_cons (pg_name (i := 7) nd rfl (Or.inl rfl)) (pgs_cons (pg_name (i := 8) nd rfl (Or.inl rfl)) (pgs_cons (pg_name (i := 9) nd rfl (Or.inl rfl)) pgs_nil)))))) (fun _ _ _ _ _ => pts_nil) (fun _ _ _ _ _ => (pe_tup (pa_cons (pv 6) (pa_cons (pv 7) (pa_cons (pe_callTy call_tuple_of (by rfl) T.b_tuple (by decide +kernel) (pa_cons (pv 8) pa_nil)) (pa_cons (pe_callTy call_tuple_of (by rfl) T.b_tuple (by decide +kernel) (pa_cons (pv 9) pa_nil)) pa_nil))))))) pa_nil)) rfl)
      (pss_cons (ps_fld (pv 0) (pe_callTy call_tuple_of (by rfl) T.b_tuple (by decide +kernel) (pa_cons (pv 3) pa_nil)) rfl)
      (pss_cons (ps_fld (pv 0) (pe_callTy call_tuple_of (by rfl) T.b_tuple (by decide +kernel) (pa_cons (pv 4) pa_nil)) rfl)
      (pss_one (ps_fld (pv 0) (pe_callTy call_tuple_of (by rfl) T.b_tuple (by decide +kernel) (pa_cons (pe_lc (own := [("name", 6), ("payload", 10)]) (g := (gSq K 2 (gCons (gName 6) (gCons (gName 10) gNil)))) (tt := tYes) (te := (tTup (tCons (tVar 6) (tCons (tCB (rTupQ K) (tCons (tVar 10) tNil)) tNil)))) rfl nd (pi_seq (pv 5)) (blkOk_by (own := [("name", 6), ("payload", 10)]) (N := ["self", "statics", "frames", "watched", "parted", "objects", "name", "place", "slots", "stack", "payload"]) (sc := defScope s_Picture___init__) (by decide +kernel)) (fun _ _ _ _ _ => (pg_sq rfl (pgs_cons (pg_name (i := 6) nd rfl (Or.inl rfl)) (pgs_cons (pg_name (i := 10) nd rfl (Or.inl rfl)) pgs_nil)))) (fun _ _ _ _ _ => pts_nil) (fun _ _ _ _ _ => (pe_tup (pa_cons (pv 6) (pa_cons (pe_callTy call_tuple_of (by rfl) T.b_tuple (by decide +kernel) (pa_cons (pv 10) pa_nil)) pa_nil))))) pa_nil)) rfl))))))
theorem sc_Picture_rows : FnScope ["self", "rows", "frame"] ["self"] (defScope s_Picture_rows) := ⟨rfl, rfl, rfl, by decide +kernel, rfl, by decide +kernel, by decide +kernel⟩
theorem ok_Picture_rows (T : Tx K mg)  : CalM P w K mg base CX0 1 (He.ga K "Picture") "rows" ["self"] (sp_Picture_rows K) := by
  obtain ⟨fd, F⟩ := T.f_Picture_rows
  have nd := (sc_Picture_rows).nd
  refine ⟨T.c_Picture, _, fd, T.m_Picture_rows, F.bindsN fun _ _ _ _ _ _ us hl => match us, hl with | [_], _ => rfl, F.ok sc_Picture_rows (fun vs H Q E h => len_Picture_rows K vs H Q E h) (fun cdv A outer s H vs Q E hr h => ⟨t_Picture_rows K, PSs.nox ?_, pure_Picture_rows K vs H Q E h⟩)⟩
  have hu := hu_of hr
  exact (pss_cons (ps_set (i := 1) nd rfl (Or.inl rfl) (pe_lst (pa_cons (pe_fld (pv 0) rfl) pa_nil)))
      (pss_cons (ps_for PassesOwn.never rfl (pi_seq (pe_fld (pv 0) rfl)) (pg_name (i := 2) nd rfl (Or.inl rfl)) (pss_cons (ps_expr (pe_bm PySem.F.plainAttrs_list PySem.F.slot_list_append PySem.F.type_list_append mt_append (pv 1) (pa_cons (pe_ix ix_seq (pv 2) pe_int (fun _ _ => rfl)) pa_nil)))
      (pss_one (ps_expr (pe_bm PySem.F.plainAttrs_list PySem.F.slot_list_append PySem.F.type_list_append mt_append (pv 1) (pa_cons (pe_ix ix_seq (pv 2) pe_int (fun _ _ => rfl)) pa_nil))))))
      (pss_one (ps_ret (pe_callTy call_tuple_of (by rfl) T.b_tuple (by decide +kernel) (pa_cons (pe_op op_cat (pv 1) (pe_lst (pa_cons (pe_fld (pv 0) rfl) (pa_cons (pe_fld (pv 0) rfl) pa_nil)))) pa_nil))))))
theorem sc_reached_without : FnScope ["picture", "barred", "order", "known", "row", "looked", "number"] ["picture", "barred"] (defScope s_reached_without) := ⟨rfl, rfl, rfl, by decide +kernel, rfl, by decide +kernel, by decide +kernel⟩
theorem ok_reached_without (T : Tx K mg) (c_Picture_rows : CalM P w K mg base CX0 1 (He.ga K "Picture") "rows" ["self"] (sp_Picture_rows K)) (c_meet : Cal P w K mg base CX0 1 "meet" ["found", "order", "known"] (sp_meet K)) (c_targets : Cal P w K mg base CX0 3 "targets" ["words"] (sp_targets K)) : Cal P w K mg base CX0 4 "reached_without" ["picture", "barred"] (sp_reached_without K) := by
  obtain ⟨fd, F⟩ := T.f_reached_without
  have nd := (sc_reached_without).nd
  refine ⟨_, fd, T.g_reached_without, F.kp, F.bindsN fun _ _ _ _ _ _ us hl => match us, hl with | [_, _], _ => rfl, F.ok sc_reached_without (fun vs H Q E h => len_reached_without K vs H Q E h) (fun cdv A outer s H vs Q E hr h => ⟨t_reached_without K, PSs.nox ?_, pure_reached_without K vs H Q E h⟩), fnAt F⟩
  have hu := hu_of hr
  exact (pss_cons (ps_set (i := 2) nd rfl (Or.inl rfl) (pe_lst pa_nil))
      (pss_cons (ps_set (i := 3) nd rfl (Or.inl rfl) (pe_disp (pps_cons (pv 1) pe_bl pps_nil) (by rfl) (by rfl) (fun z => by cases z) (by decide)))
      (pss_cons (ps_for PassesOwn.never rfl (pi_seq (pe_calM0 (pv 0) c_Picture_rows hr (by decide) pass0)) (pg_name (i := 4) nd rfl (Or.inl rfl)) (pss_one (ps_expr (pe_cal c_meet hr (by decide) (by rfl) pass0 (pa_cons (pe_cal c_targets hr (by decide) (by rfl) pass0 (pa_cons (pv 4) pa_nil)) (pa_cons (pv 2) (pa_cons (pv 3) pa_nil)))))))
      (pss_cons (ps_set (i := 5) nd rfl (Or.inl rfl) pe_int)
      (pss_cons (ps_while PassesOwn.never (pt_cmpR op_lt (pv 5) (pe_callB call_len_seq (by rfl) T.b_len PySem.boot_len (pa_cons (pv 2) pa_nil)) (nomark _)) (pss_cons (ps_expr (pe_cal c_meet hr (by decide) (by rfl) pass0 (pa_cons (pe_cal c_targets hr (by decide) (by rfl) pass0 (pa_cons (pe_ix ix_seq (pe_ix ix_seq (pe_fld (pv 0) rfl) (pe_ix ix_seq (pv 2) (pv 5) (fun _ _ => rfl)) (fun _ _ => rfl)) pe_int (fun _ _ => rfl)) pa_nil)) (pa_cons (pv 2) (pa_cons (pv 3) pa_nil)))))
      (pss_one (ps_set (i := 5) nd rfl (Or.inl rfl) (pe_op op_add (pv 5) pe_int)))))
      (pss_one (ps_ret (pe_dc (own := [("number", 6)]) (g := (gName 6)) (tt := tYes) (tk := (tVar 6)) (tv := (tC (.bl true))) rfl nd (pi_seq (pv 2)) (blkOk_by (own := [("number", 6)]) (N := ["picture", "barred", "order", "known", "row", "looked", "number"]) (sc := defScope s_reached_without) (by decide +kernel)) (fun _ _ _ _ _ => (pg_name (i := 6) nd rfl (Or.inl rfl))) (fun _ _ _ _ _ => pts_nil) (fun _ _ _ _ _ => (pv 6)) (fun _ _ _ _ _ => pe_bl)))))))))
theorem sc_kept_sets : FnScope ["picture", "told", "barred", "reached", "number"] ["picture"] (defScope s_kept_sets) := ⟨rfl, rfl, rfl, by decide +kernel, rfl, by decide +kernel, by decide +kernel⟩
theorem ok_kept_sets (T : Tx K mg) (c_reached_without : Cal P w K mg base CX0 4 "reached_without" ["picture", "barred"] (sp_reached_without K)) : Cal P w K mg base CX0 5 "kept_sets" ["picture"] (sp_kept_sets K) := by
  obtain ⟨fd, F⟩ := T.f_kept_sets
  have nd := (sc_kept_sets).nd
  refine ⟨_, fd, T.g_kept_sets, F.kp, F.bindsN fun _ _ _ _ _ _ us hl => match us, hl with | [_], _ => rfl, F.ok sc_kept_sets (fun vs H Q E h => len_kept_sets K vs H Q E h) (fun cdv A outer s H vs Q E hr h => ⟨t_kept_sets K, PSs.nox ?_, pure_kept_sets K vs H Q E h⟩), fnAt F⟩
  have hu := hu_of hr
  exact (pss_cons (ps_set (i := 1) nd rfl (Or.inl rfl) (pe_lst pa_nil))
      (pss_cons (ps_for PassesOwn.never rfl (pi_range1 (by rfl) T.b_range (pa_cons (pe_callB call_len_seq (by rfl) T.b_len PySem.boot_len (pa_cons (pe_fld (pv 0) rfl) pa_nil)) pa_nil)) (pg_name (i := 2) nd rfl (Or.inr rfl)) (pss_cons (ps_set (i := 3) nd rfl (Or.inr rfl) (pe_cal c_reached_without hr (by decide) (by rfl) pass0 (pa_cons (pv 0) (pa_cons (pv 2) pa_nil))))
      (pss_one (ps_expr (pe_bm PySem.F.plainAttrs_list PySem.F.slot_list_append PySem.F.type_list_append mt_append (pv 1) (pa_cons (pe_lc (own := [("number", 4)]) (g := (gName 4)) (tt := (tAnd (tTest (tOp rNe (tVar 4) (tVar 2))) (tB (tDNotIn (tVar 4) (tVar 3))))) (te := (tVar 4)) rfl nd (pi_range1 (by rfl) T.b_range (pa_cons (pe_callB call_len_seq (by rfl) T.b_len PySem.boot_len (pa_cons (pe_fld (pv 0) rfl) pa_nil)) pa_nil)) (blkOk_by (own := [("number", 4)]) (N := ["picture", "told", "barred", "reached", "number"]) (sc := defScope s_kept_sets) (by decide +kernel)) (fun _ _ _ _ _ => (pg_name (i := 4) nd rfl (Or.inl rfl))) (fun _ _ _ _ _ => (pts_one (PW.pt (pw_and (pt_cmpR op_ne (pv 4) (pv 2) (nomark _)) (pw_and1 (pt_cmp (pc_dnotin hu (pv 4) (pv 3)))))))) (fun _ _ _ _ _ => (pv 4))) pa_nil))))))
      (pss_one (ps_ret (pv 1)))))
theorem sc_keepers : FnScope ["picture", "kept", "depths", "numbers", "number", "told", "keeper"] ["picture"] (defScope s_keepers) := ⟨rfl, rfl, rfl, by decide +kernel, rfl, by decide +kernel, by decide +kernel⟩
theorem ok_keepers (T : Tx K mg) (c_kept_sets : Cal P w K mg base CX0 5 "kept_sets" ["picture"] (sp_kept_sets K)) : Cal P w K mg base CX0 6 "keepers" ["picture"] (sp_keepers K) := by
  obtain ⟨fd, F⟩ := T.f_keepers
  have nd := (sc_keepers).nd
  refine ⟨_, fd, T.g_keepers, F.kp, F.bindsN fun _ _ _ _ _ _ us hl => match us, hl with | [_], _ => rfl, F.ok sc_keepers (fun vs H Q E h => len_keepers K vs H Q E h) (fun cdv A outer s H vs Q E hr h => ⟨t_keepers K, PSs.nox ?_, pure_keepers K vs H Q E h⟩), fnAt F⟩
  have hu := hu_of hr
  exact (pss_cons (ps_set (i := 1) nd rfl (Or.inl rfl) (pe_cal c_kept_sets hr (by decide) (by rfl) pass0 (pa_cons (pv 0) pa_nil)))
      (pss_cons (ps_set (i := 2) nd rfl (Or.inl rfl) (pe_op op_rep (pe_lst (pa_cons pe_int pa_nil)) (pe_callB call_len_seq (by rfl) T.b_len PySem.boot_len (pa_cons (pv 1) pa_nil))))
      (pss_cons (ps_for PassesOwn.never rfl (pi_seq (pv 1)) (pg_name (i := 3) nd rfl (Or.inl rfl)) (pss_one (ps_for PassesOwn.never rfl (pi_seq (pv 3)) (pg_name (i := 4) nd rfl (Or.inl rfl)) (pss_one (ps_asg (pe_op op_add (pe_ix ix_seq (pv 2) (pv 4) (fun _ _ => rfl)) pe_int) (pg_sub (pv 2) (pv 4) set_list))))))
      (pss_cons (ps_set (i := 5) nd rfl (Or.inl rfl) (pe_op op_rep (pe_lst (pa_cons pe_non pa_nil)) (pe_callB call_len_seq (by rfl) T.b_len PySem.boot_len (pa_cons (pv 1) pa_nil))))
      (pss_cons (ps_for PassesOwn.never rfl (pi_range1 (by rfl) T.b_range (pa_cons (pe_callB call_len_seq (by rfl) T.b_len PySem.boot_len (pa_cons (pv 1) pa_nil)) pa_nil)) (pg_name (i := 6) nd rfl (Or.inl rfl)) (pss_one (ps_for PassesOwn.never rfl (pi_seq (pe_ix ix_seq (pv 1) (pv 6) (fun _ _ => rfl))) (pg_name (i := 4) nd rfl (Or.inl rfl)) (pss_one (ps_if (pt_cmpR op_eq (pe_ix ix_seq (pv 2) (pv 6) (fun _ _ => rfl)) (pe_op op_sub (pe_ix ix_seq (pv 2) (pv 4) (fun _ _ => rfl)) pe_int) (nomark _)) (pss_one (ps_asg (pv 6) (pg_sub (pv 5) (pv 4) set_list))) pss_nil)))))
      (pss_one (ps_ret (pe_callTy call_tuple_of (by rfl) T.b_tuple (by decide +kernel) (pa_cons (pv 5) pa_nil)))))))))
theorem sc__law_made : FnScope ["_law_parts", "_law_lists", "_law_rows", "_law_frames", "_law_objects", "_law_picture", "_law_words_here", "_law_frame", "_law_one"] ["_law_parts", "_law_lists"] (defScope s__law_made) := ⟨rfl, rfl, rfl, by decide +kernel, rfl, by decide +kernel, by decide +kernel⟩
theorem ok__law_made (T : Tx K mg) (c_Picture___init__ : CalI P w K mg base CX0 1 "Picture" (He.ga K "Picture") ["self", "statics", "frames", "watched", "parted", "objects"] (sp_Picture___init__ K)) : Cal P w K mg base CX0 3 "_law_made" ["_law_parts", "_law_lists"] (sp__law_made K) := by
  obtain ⟨fd, F⟩ := T.f__law_made
  have nd := (sc__law_made).nd
  refine ⟨_, fd, T.g__law_made, F.kp, F.bindsN fun _ _ _ _ _ _ us hl => match us, hl with | [_, _], _ => rfl, F.ok sc__law_made (fun vs H Q E h => len__law_made K vs H Q E h) (fun cdv A outer s H vs Q E hr h => ⟨t__law_made K, PSs.nox ?_, pure__law_made K vs H Q E h⟩), fnAt F⟩
  have hu := hu_of hr
  exact (pss_cons (ps_if (pt_not (pt_val (pv 1))) (pss_one (ps_ret (pe_calI c_Picture___init__ hr (by decide) (by rfl) pass0 (pa_cons (pe_ix ix_seq (pv 0) pe_int (fun _ _ => rfl)) (pa_cons (pe_ix ix_seq (pv 0) pe_int (fun _ _ => rfl)) (pa_cons (pe_ix ix_seq (pv 0) pe_int (fun _ _ => rfl)) (pa_cons (pe_ix ix_seq (pv 0) pe_int (fun _ _ => rfl)) (pa_cons (pe_ix ix_seq (pv 0) pe_int (fun _ _ => rfl)) pa_nil)))))))) pss_nil)
      (pss_cons (ps_set (i := 2) nd rfl (Or.inl rfl) (pe_lst (pa_cons (pe_callTy call_list_of (by rfl) T.b_list (by decide +kernel) (pa_cons (pe_ix ix_seq (pv 0) pe_int (fun _ _ => rfl)) pa_nil)) (pa_cons (pe_callTy call_list_of (by rfl) T.b_list (by decide +kernel) (pa_cons (pe_ix ix_seq (pv 0) pe_int (fun _ _ => rfl)) pa_nil)) (pa_cons (pe_callTy call_list_of (by rfl) T.b_list (by decide +kernel) (pa_cons (pe_ix ix_seq (pv 0) pe_int (fun _ _ => rfl)) pa_nil)) pa_nil)))))
      (pss_cons (ps_setLc (i := 3) (own := [("_law_frame", 7)]) (g := (gName 7)) (tt := tYes) (te := (tLst (tCons (tOp (rIx K) (tVar 7) (tC (.int 0))) (tCons (tOp (rIx K) (tVar 7) (tC (.int 1))) (tCons (tCB (rLstQ K) (tCons (tOp (rIx K) (tVar 7) (tC (.int 2))) tNil)) (tCons (tCB (rLstQ K) (tCons (tOp (rIx K) (tVar 7) (tC (.int 3))) tNil)) tNil)))))) rfl nd rfl rfl (sw_true rfl rfl rfl (by decide +kernel)) (pi_seq (pe_ix ix_seq (pv 0) pe_int (fun _ _ => rfl))) (blkOk_by (own := [("_law_frame", 7)]) (N := ["_law_parts", "_law_lists", "_law_rows", "_law_frames", "_law_objects", "_law_picture", "_law_words_here", "_law_frame", "_law_one"]) (sc := defScope s__law_made) (by decide +kernel)) (fun _ _ _ _ _ => (pg_name (i := 7) nd rfl (Or.inl rfl))) (fun _ _ _ _ _ => pts_nil) (fun _ _ _ _ _ => (pe_lst (pa_cons (pe_ix ix_seq (pv 7) pe_int (fun _ _ => rfl)) (pa_cons (pe_ix ix_seq (pv 7) pe_int (fun _ _ => rfl)) (pa_cons (pe_callTy call_list_of (by rfl) T.b_list (by decide +kernel) (pa_cons (pe_ix ix_seq (pv 7) pe_int (fun _ _ => rfl)) pa_nil)) (pa_cons (pe_callTy call_list_of (by rfl) T.b_list (by decide +kernel) (pa_cons (pe_ix ix_seq (pv 7) pe_int (fun _ _ => rfl)) pa_nil)) pa_nil)))))))
      (pss_cons (ps_setLc (i := 4) (own := [("_law_one", 8)]) (g := (gName 8)) (tt := tYes) (te := (tLst (tCons (tOp (rIx K) (tVar 8) (tC (.int 0))) (tCons (tCB (rLstQ K) (tCons (tOp (rIx K) (tVar 8) (tC (.int 1))) tNil)) tNil)))) rfl nd rfl rfl (sw_true rfl rfl rfl (by decide +kernel)) (pi_seq (pe_ix ix_seq (pv 0) pe_int (fun _ _ => rfl))) (blkOk_by (own := [("_law_one", 8)]) (N := ["_law_parts", "_law_lists", "_law_rows", "_law_frames", "_law_objects", "_law_picture", "_law_words_here", "_law_frame", "_law_one"]) (sc := defScope s__law_made) (by decide +kernel)) (fun _ _ _ _ _ => (pg_name (i := 8) nd rfl (Or.inl rfl))) (fun _ _ _ _ _ => pts_nil) (fun _ _ _ _ _ => (pe_lst (pa_cons (pe_ix ix_seq (pv 8) pe_int (fun _ _ => rfl)) (pa_cons (pe_callTy call_list_of (by rfl) T.b_list (by decide +kernel) (pa_cons (pe_ix ix_seq (pv 8) pe_int (fun _ _ => rfl)) pa_nil)) pa_nil)))))
      (pss_cons (ps_set (i := 5) nd rfl (Or.inl rfl) (pe_calI c_Picture___init__ hr (by decide) (by rfl) pass0 (pa_cons (pe_ix ix_seq (pv 2) pe_int (fun _ _ => rfl)) (pa_cons (pv 3) (pa_cons (pe_ix ix_seq (pv 2) pe_int (fun _ _ => rfl)) (pa_cons (pe_ix ix_seq (pv 2) pe_int (fun _ _ => rfl)) (pa_cons (pv 4) pa_nil)))))))
      (pss_cons (ps_for PassesOwn.never rfl (pi_seq (pe_op op_cat (pe_op op_cat (pv 2) (pe_lc (own := [("_law_one", 8)]) (g := (gName 8)) (tt := tYes) (te := (tOp (rIx K) (tVar 8) (tC (.int 1)))) rfl nd (pi_seq (pv 4)) (blkOk_by (own := [("_law_one", 8)]) (N := ["_law_parts", "_law_lists", "_law_rows", "_law_frames", "_law_objects", "_law_picture", "_law_words_here", "_law_frame", "_law_one"]) (sc := defScope s__law_made) (by decide +kernel)) (fun _ _ _ _ _ => (pg_name (i := 8) nd rfl (Or.inl rfl))) (fun _ _ _ _ _ => pts_nil) (fun _ _ _ _ _ => (pe_ix ix_seq (pv 8) pe_int (fun _ _ => rfl))))) (pe_lc (own := [("_law_frame", 7)]) (g := (gName 7)) (tt := tYes) (te := (tOp (rIx K) (tVar 7) (tC (.int 2)))) rfl nd (pi_seq (pv 3)) (blkOk_by (own := [("_law_frame", 7)]) (N := ["_law_parts", "_law_lists", "_law_rows", "_law_frames", "_law_objects", "_law_picture", "_law_words_here", "_law_frame", "_law_one"]) (sc := defScope s__law_made) (by decide +kernel)) (fun _ _ _ _ _ => (pg_name (i := 7) nd rfl (Or.inl rfl))) (fun _ _ _ _ _ => pts_nil) (fun _ _ _ _ _ => (pe_ix ix_seq (pv 7) pe_int (fun _ _ => rfl)))))) (pg_name (i := 6) nd rfl (Or.inl rfl)) (pss_one (ps_expr (pe_bm PySem.F.plainAttrs_list PySem.F.slot_list_insert PySem.F.type_list_insert mt_insert (pv 6) (pa_cons pe_int (pa_cons pe_int pa_nil))))))
      (pss_cons (ps_expr (pe_bm PySem.F.plainAttrs_list PySem.F.slot_list_append PySem.F.type_list_append mt_append (pv 3) (pa_cons (pe_lst (pa_cons pe_str (pa_cons pe_int (pa_cons (pe_lst (pa_cons pe_int pa_nil)) (pa_cons (pe_lst pa_nil) pa_nil))))) pa_nil)))
      (pss_cons (ps_expr (pe_bm PySem.F.plainAttrs_list PySem.F.slot_list_append PySem.F.type_list_append mt_append (pv 4) (pa_cons (pe_lst (pa_cons pe_str (pa_cons (pe_lst (pa_cons pe_int pa_nil)) pa_nil))) pa_nil)))
      (pss_one (ps_ret (pv 5)))))))))))
theorem sc_law : FnScope ["_law_script", "_law_parts", "_law_other", "_law_mode", "_law_tall", "_law_one", "_law_two", "_law_kept", "_law_second"] ["_law_script"] (defScope s_law) := ⟨rfl, rfl, rfl, by decide +kernel, rfl, by decide +kernel, by decide +kernel⟩
theorem ok_law (T : Tx K mg) (c__law_cell : Cal P w K mg base CX0 1 "_law_cell" ["_law_script", "_law_k"] (sp__law_cell K)) (c__law_digits : Cal P w K mg base CX0 1 "_law_digits" ["_law_cell_here", "_law_sizes"] (sp__law_digits K)) (c__law_drawn : Cal P w K mg base CX0 4 "_law_drawn" ["_law_script", "_law_at"] (sp__law_drawn K)) (c__law_kept_by : Cal P w K mg base CX0 2 "_law_kept_by" ["_law_parts"] (sp__law_kept_by K)) (c__law_ladder : Cal P w K mg base CX0 4 "_law_ladder" ["_law_many", "_law_turn"] (sp__law_ladder K)) (c__law_made : Cal P w K mg base CX0 3 "_law_made" ["_law_parts", "_law_lists"] (sp__law_made K)) (c__law_mirrored : Cal P w K mg base CX0 4 "_law_mirrored" ["_law_parts"] (sp__law_mirrored K)) (c__law_right : Cal P w K mg base CX0 2 "_law_right" ["_law_told", "_law_kept"] (sp__law_right K)) (c__law_stays : Cal P w K mg base CX0 1 "_law_stays" ["_law_picture", "_law_parts"] (sp__law_stays K)) (c_keepers : Cal P w K mg base CX0 6 "keepers" ["picture"] (sp_keepers K)) (ck_keepers : CalK P w K mg base CX0 6 "keepers" ["picture"] ["picture"] (fun zs => match zs with | [a0] => [a0] | _ => zs) (sp_keepers K)) : Cal P w K mg base CX0 7 "law" ["_law_script"] (sp_law K) := by
  obtain ⟨fd, F⟩ := T.f_law
  have nd := (sc_law).nd
  refine ⟨_, fd, T.g_law, F.kp, F.bindsN fun _ _ _ _ _ _ us hl => match us, hl with | [_], _ => rfl, F.ok sc_law (fun vs H Q E h => len_law K vs H Q E h) (fun cdv A outer s H vs Q E hr h => ⟨t_law K, PSs.nox ?_, pure_law K vs H Q E h⟩), fnAt F⟩
  have hu := hu_of hr
  exact (pss_cons (ps_set (i := 1) nd rfl (Or.inl rfl) (pe_cal c__law_drawn hr (by decide) (by rfl) pass0 (pa_cons (pv 0) (pa_cons pe_int pa_nil))))
      (pss_cons (ps_set (i := 2) nd rfl (Or.inl rfl) (pe_cal c__law_mirrored hr (by decide) (by rfl) pass0 (pa_cons (pv 1) pa_nil)))
      (pss_cons (ps_set (i := 3) nd rfl (Or.inl rfl) (pe_cal c__law_digits hr (by decide) (by rfl) pass0 (pa_cons (pe_cal c__law_cell hr (by decide) (by rfl) pass0 (pa_cons (pv 0) (pa_cons pe_int pa_nil))) (pa_cons (pe_lst (pa_cons pe_int (pa_cons pe_int (pa_cons pe_int (pa_cons pe_int (pa_cons pe_int pa_nil)))))) pa_nil))))
      (pss_cons (ps_if (pt_cmpR op_eq (pe_ix ix_seq (pv 3) pe_int (fun _ _ => rfl)) pe_int (nomark _)) (pss_cons (ps_set (i := 4) nd rfl (Or.inl rfl) (pe_cal c__law_ladder hr (by decide) (by rfl) pass0 (pa_cons (pe_op op_add pe_int (pe_ix ix_seq (pv 3) pe_int (fun _ _ => rfl))) (pa_cons (pe_ix ix_seq (pv 3) pe_int (fun _ _ => rfl)) pa_nil))))
      (pss_one (ps_if (pt_not (pt_val (pe_cal c__law_right hr (by decide) (by rfl) pass0 (pa_cons (pe_cal c_keepers hr (by decide) (by rfl) pass0 (pa_cons (pe_cal c__law_made hr (by decide) (by rfl) pass0 (pa_cons (pv 4) (pa_cons pe_bl pa_nil))) pa_nil)) (pa_cons (pe_cal c__law_kept_by hr (by decide) (by rfl) pass0 (pa_cons (pv 4) pa_nil)) pa_nil))))) (pss_one (ps_ret pe_bl)) pss_nil))) pss_nil)
      (pss_cons (ps_set (i := 5) nd rfl (Or.inl rfl) (pe_cal c__law_made hr (by decide) (by rfl) pass0 (pa_cons (pv 1) (pa_cons (pe_cmpR op_eq (pe_ix ix_seq (pv 3) pe_int (fun _ _ => rfl)) pe_int (nomark _)) pa_nil))))
      (pss_cons (ps_set (i := 6) nd rfl (Or.inl rfl) (pe_cal c__law_made hr (by decide) (by rfl) pass0 (pa_cons (pv 2) (pa_cons (pe_cmpR op_eq (pe_ix ix_seq (pv 3) pe_int (fun _ _ => rfl)) pe_int (nomark _)) pa_nil))))
      (pss_cons (ps_set (i := 7) nd rfl (Or.inl rfl) (pe_cal c__law_kept_by hr (by decide) (by rfl) pass0 (pa_cons (pv 1) pa_nil)))
      (pss_cons (ps_set (i := 8) nd rfl (Or.inl rfl) (pe_cal c__law_kept_by hr (by decide) (by rfl) pass0 (pa_cons (pv 2) pa_nil)))
      (pss_cons (ps_if (PW.pt (pw_or (pt_not (pt_val (pe_cal c__law_right hr (by decide) (by rfl) pass0 (pa_cons (pe_cal c_keepers hr (by decide) (by rfl) pass0 (pa_cons (pv 5) pa_nil)) (pa_cons (pv 7) pa_nil))))) (pw_or1 (pt_not (pt_val (pe_cal c__law_right hr (by decide) (by rfl) pass0 (pa_cons (pe_calK ck_keepers hr (by decide) (by rfl) pass0 (pk_cons (pv 6) pk_nil)) (pa_cons (pv 8) pa_nil)))))))) (pss_one (ps_ret pe_bl)) pss_nil)
      (pss_cons (ps_if (pt_not (pt_val (pe_cal c__law_right hr (by decide) (by rfl) pass0 (pa_cons (pe_cal c_keepers hr (by decide) (by rfl) pass0 (pa_cons (pv 5) pa_nil)) (pa_cons (pv 7) pa_nil))))) (pss_one (ps_ret pe_bl)) pss_nil)
      (pss_one (ps_ret (pe_and (pe_cal c__law_stays hr (by decide) (by rfl) pass0 (pa_cons (pv 5) (pa_cons (pv 1) pa_nil))) (pe_one (pe_cal c__law_stays hr (by decide) (by rfl) pass0 (pa_cons (pv 6) (pa_cons (pv 2) pa_nil)))))))))))))))))
end
theorem facts {P : Program} {w : World} {K : PySem.W.Frag} {h : Heap} {mg : Str → Option Value} {f : Addr} (X : K.In h) (N : h.Ns mainGlobals mg) (hfa : mg ("law" : Str) = some (.ref f)) (c : He.SaysD fa fn K) :
    ∃ fd : FuncData, PFacts K (PC K) ∧ (∀ (s : Shared) (v : Value), BindsTo s fd ⟨[v], []⟩ [("_law_script", v)]) ∧ ∀ base : Heap, K.In base → base.Ns mainGlobals mg → FnOk P w K mg base CX0 7 f fd ["_law_script"] (sp_law K) := by
  have T : Tx K mg := ⟨c, h, X, N⟩
  obtain ⟨fd, F⟩ := T.f_law
  have e := hfa.symm.trans T.g_law
  have b := FunD.bindsA (ps := ["_law_script"]) F fun _ _ _ _ _ _ us hl => match us, hl with | [_], _ => rfl
  refine ⟨fd, ⟨T.c_Picture, T.n_Picture_statics, T.n_Picture_frames, T.n_Picture_watched, T.n_Picture_parted, T.n_Picture_objects⟩, fun s v => b s [v] rfl, fun base _ _ => ?_⟩
  have c_is_reference := ok_is_reference (P := P) (w := w) (base := base) T 
  have c_address_of := ok_address_of (P := P) (w := w) (base := base) T 
  have c_target_at := ok_target_at (P := P) (w := w) (base := base) T c_address_of c_is_reference
  have c_targets := ok_targets (P := P) (w := w) (base := base) T c_target_at
  have c_meet := ok_meet (P := P) (w := w) (base := base) T 
  have c__law_whole := ok__law_whole (P := P) (w := w) (base := base) T 
  have c__law_cell := ok__law_cell (P := P) (w := w) (base := base) T 
  have c__law_digits := ok__law_digits (P := P) (w := w) (base := base) T 
  have c__law_held := ok__law_held (P := P) (w := w) (base := base) T 
  have c__law_turned := ok__law_turned (P := P) (w := w) (base := base) T 
  have c__law_turned_row := ok__law_turned_row (P := P) (w := w) (base := base) T c__law_turned
  have c__law_words := ok__law_words (P := P) (w := w) (base := base) T 
  have c__law_root_rows := ok__law_root_rows (P := P) (w := w) (base := base) T 
  have c__law_numbered := ok__law_numbered (P := P) (w := w) (base := base) T c__law_held c__law_root_rows c__law_turned_row
  have c__law_linked := ok__law_linked (P := P) (w := w) (base := base) T c__law_root_rows
  have c__law_padded := ok__law_padded (P := P) (w := w) (base := base) T c__law_root_rows
  have c__law_drawn := ok__law_drawn (P := P) (w := w) (base := base) T c__law_cell c__law_digits c__law_linked c__law_numbered c__law_padded c__law_words
  have c__law_mirrored := ok__law_mirrored (P := P) (w := w) (base := base) T c__law_numbered
  have c__law_stays := ok__law_stays (P := P) (w := w) (base := base) T 
  have c__law_ladder := ok__law_ladder (P := P) (w := w) (base := base) T c__law_numbered
  have c__law_kept_by := ok__law_kept_by (P := P) (w := w) (base := base) T c__law_held c__law_root_rows
  have c__law_right := ok__law_right (P := P) (w := w) (base := base) T c__law_whole
  have c_Picture___init__ := ok_Picture___init__ (P := P) (w := w) (base := base) T 
  have c_Picture_rows := ok_Picture_rows (P := P) (w := w) (base := base) T 
  have c_reached_without := ok_reached_without (P := P) (w := w) (base := base) T c_Picture_rows c_meet c_targets
  have c_kept_sets := ok_kept_sets (P := P) (w := w) (base := base) T c_reached_without
  have c_keepers := ok_keepers (P := P) (w := w) (base := base) T c_kept_sets
  have c__law_made := ok__law_made (P := P) (w := w) (base := base) T c_Picture___init__
  obtain ⟨fd_keepers, F_keepers⟩ := T.f_keepers
  have ck_keepers := Cal.kw c_keepers T.g_keepers (fnAt F_keepers) (fun zs => match zs with | [a0] => [a0] | _ => zs) (kb1 F_keepers fun _ _ _ _ _ _ us hl => match us, hl with | [_], _ => rfl)
  have c_law := ok_law (P := P) (w := w) (base := base) T c__law_cell c__law_digits c__law_drawn c__law_kept_by c__law_ladder c__law_made c__law_mirrored c__law_right c__law_stays c_keepers ck_keepers
  obtain ⟨f', fd', hm, _, _, FO, A⟩ := c_law.ex
  rw [hfa] at hm
  cases hm
  have e2 := T.g_law
  rw [hfa] at e2
  cases e2
  cases A.inj (fnAt F)
  exact FO
end K96
open PySem PySem.W PySem.Calls PyProof.Rows
theorem PySem.Challenge.cw_quietbroom_k96_keepers_whole_holds : PySem.Challenge.rw_quietbroom_k96_keepers_whole.Holds := by
  w_on; o_law
  refine HandSHeadRun.head_any (r := OpenLaw.row PySem.Challenge.rw_quietbroom_k96_keepers_whole) (q := view (OpenLaw.row PySem.Challenge.rw_quietbroom_k96_keepers_whole).prog [33]) (H := K96.hk) (ob := K96.ob) (M := 6000) (loose := K96.loose) (d := HandSHeadRun.topDef (OpenLaw.row PySem.Challenge.rw_quietbroom_k96_keepers_whole).prog 33) (kwd := []) K96.ob_eq
    (by kernel_rfl) (fun s => by kernel_rfl) K96.run (by kernel_rfl) (by kernel_rfl) (by kernel_rfl) (by rfl) (by first | assumption | decide +kernel) (by decide +kernel) ⟨rfl, rfl, rfl, rfl, rfl, by decide +kernel⟩ ?hw ?hc
  case hw => w_witness2
  case hc =>
    refine L2.walk_ofE (l := PySem.Challenge.rw_quietbroom_k96_keepers_whole) (n := 63) (k := 7) (x := "_law_script") (CX := L2.CX0) rfl (by decide) (by kernel_rfl) ⟨rfl, by decide, by decide⟩ ?F (fun _ _ _ _ z => z)
    intro w mg fa h Y N hmg0
    obtain ⟨K, KX, c⟩ := Y
    have hmg : mg ("law" : PySem.Str) = some (.ref fa) := by
      have e : (HandSHeadRun.topDef (OpenLaw.row PySem.Challenge.rw_quietbroom_k96_keepers_whole).prog 33).name = ("law" : PySem.Str) := by kernel_rfl
      rw [← e]
      exact hmg0
    obtain ⟨fd, pf, hb, hF⟩ := K96.facts (P := (PySem.Challenge.rw_quietbroom_k96_keepers_whole).prog) (w := w) KX N hmg c
    exact ⟨K, fd, Gr.sp_law K, KX, hb, fun H a ns hl _ hS => ⟨a, ns, pf, rfl, hS, fun _ _ => rfl⟩, hF⟩
