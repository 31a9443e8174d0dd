import PyProof.Rows.All
import Wide.All
import OpenK.AllK
import Wide.FinOn
import HandS.ForMost
import HandS.IsInst
import HandS.Flow
import HandS.WideBits
import HandS.Defaults
import HandS.MakeKw
import HandS.Exc
import HandS.ExcOwn
import HandS.TryOnly
import HandS.WordsExc
import HandS.Deep
import HandS.WordsDict
import HandS.Small
import HandS.Conv
import HandS.Text
import KE.KxIndex
import HandS.Codes
import KE.SortData
import HandS.ExcInit
import HandS.ClsMeth
import HandS.ExcField
import HandS.ExcIs
import HandS.TryMany
import KE.KExcIs
import HandS.Replace
import KE.DataMinMax
import PyProof.Claim2Refuses
import KE.KEqDict
import KE.KDictSum
import HandS.Sort
import PyProof.Rows.SeqMore
import KE.KIndexOf
import HandS.SetKeys
import PySem.Challenge.RW_tornshelf_k42_books_at_places
set_option Elab.async false
set_option linter.all false
set_option maxRecDepth 100000
set_option maxHeartbeats 4000000
namespace Z
open PySem L2
/-! ## Forgetting what a piece of code has made and dropped -/
def isDT : HO → Bool
  | .dT _ => true
  | .frz _ u => isDT u
  | _ => false
def okA (G : Hp) (a : Addr) : HO → Prop
  | .ins _ dx _ => G dx = some (.own a)
  | .frz _ u => okA G a u
  | _ => True
def kept : HO → Bool
  | .tup _ => true
  | .frz _ _ => true
  | .tbl _ => true
  | _ => false
/-- from H on, H' was reached; G, a part of H', is all that is still told -/
structure Gc (H H' G : Hp) : Prop where
  sub : ∀ a o, G a = some o → H' a = some o
  ok : ∀ a o, G a = some o → okA G a o ∨ (H a = some o ∧ ∀ b, H b = some (.own a) → G b = some (.own a))
  keep : ∀ b o, H b = some o → kept o = true → G b = some o
  dt : (∀ a o, G a = some o → isDT o = false) ∨ ∀ b xs, H' b = some (.tup xs) → G b = some (.tup xs)
section
variable {P : Program} {w : World} {H H' G : Hp} {h : Heap} {a : Addr} {o : HO}
theorem obj_sub (x : ObjOk P w H' h a o) (k : okA G a o) (d : isDT o = false ∨ ∀ b xs, H' b = some (.tup xs) → G b = some (.tup xs)) : ObjOk P w G h a o := by
  induction o with
  | lst xs => exact x
  | tup xs => exact x
  | dK kvs => exact x
  | dT kvs =>
    rcases d with d | d
    · cases d
    · obtain ⟨z, y, xs, r, q⟩ := x
      exact ⟨z, y, xs, Paired.mapP r fun p q z => ⟨z.1, d _ _ z.2.1, z.2.2⟩, q⟩
  | set S n => exact x
  | ins C dx fs => exact ⟨k, x.2⟩
  | own y => exact x
  | xd fs => exact x
  | rng lo hi => exact x
  | frz ob u ih => exact ⟨x.1, ih x.2 k d⟩
  | tbl ps => exact x
  | met f y => exact x
  | ext φ => exact x
theorem okA_of (x : ObjOk P w H h a o) (k : ∀ b, H b = some (.own a) → G b = some (.own a)) : okA G a o := by
  induction o with
  | ins C dx fs => exact k _ x.1
  | frz ob u ih => exact ih x.2
  | _ => trivial
end
section
variable {X : Cx} {pins pins' : List (Addr × Obj)} {σ σ' : List (Option V)} {H H' G : Hp} {s s' : Shared}
theorem none_sub (g : Gc H H' G) {b : Addr} (e : H' b = none) : G b = none := by
  cases q : G b with
  | none => rfl
  | some o => rw [g.sub b o q] at e; cases e
theorem inv_gc (hk : HOk X.prog X.w H s.heap) (I : Inv X pins σ H s) (J : Inv X pins' σ' H' s') (g : Gc H H' G) : Inv X pins' σ' G s' where
  ok := J.ok
  os := J.os
  bare := J.bare
  base :=
    { keep := J.base.keep
      slot := J.base.slot
      free := fun b o q n hx => none_sub g (J.base.free b o q n hx)
      there := J.base.there
      tups := fun b xs q => g.keep b _ (I.base.tups b xs q) rfl
      frzs := fun b o u q => g.keep b _ (I.base.frzs b o u q) rfl
      tbls := fun b ps q => by
        obtain ⟨more, e⟩ := I.base.tbls b ps q
        exact ⟨more, g.keep b _ e rfl⟩ }
  loc := J.loc
  cell := J.cell
  free := none_sub g J.free
  freeC := fun x c e => none_sub g (J.freeC x c e)
  pin := fun p hp => ⟨(J.pin p hp).1, none_sub g (J.pin p hp).2.1, (J.pin p hp).2.2⟩
  hok := fun a o e => by
    have x : ObjOk X.prog X.w H' s'.heap a o := J.hok a o (g.sub a o e)
    refine obj_sub x ?_ ?_
    · rcases g.ok a o e with k | ⟨q, k⟩
      · exact k
      · exact okA_of (hk a o q) k
    · rcases g.dt with d | d
      · exact .inl (d a o e)
      · exact .inr d
  len := J.len
/-- an expression, what it made and dropped forgotten -/
def tGc (t : TE) : TE := fun σ H Q => t σ H fun v H' => ∃ G, Gc H H' G ∧ Q v G
def uGc (t : TT) : TT := fun σ H Q => t σ H fun v H' => ∃ G, Gc H H' G ∧ Q v G
def sGc (t : TS) : TS := fun D σ H => t ⟨fun σ' H' => ∃ G, Gc H H' G ∧ D.nx σ' G, fun v H' => ∃ G, Gc H H' G ∧ D.rt v G, fun σ' H' => ∃ G, Gc H H' G ∧ D.bk σ' G, fun σ' H' => ∃ G, Gc H H' G ∧ D.ct σ' G⟩ σ H
theorem pe_gc {e : Expr} {t : TE} (h : PE X e t) : PE X e (tGc t) := by
  refine ⟨fun pins s σ H Q I q => thn (h.run pins s σ H _ I q) fun u s1 ⟨v, H1, I1, r, G, g, q1⟩ => ?_⟩
  exact ⟨v, G, inv_gc I.hok I I1 g, r, q1⟩
theorem pt_gc {e : Expr} {t : TT} (h : PT X e t) : PT X e (uGc t) := by
  refine ⟨fun pins s σ H Q I q => thn (h.run pins s σ H _ I q) fun u s1 ⟨H1, I1, G, g, q1⟩ => ?_⟩
  exact ⟨G, inv_gc I.hok I I1 g, q1⟩
theorem sp_gc {pins : List (Addr × Obj)} {σ : St} {H : Hp} {s s1 : Shared} {D : Ends} {f : Flow} (I : Inv X pins σ H s)
    (q : SP X pins ⟨fun σ' H' => ∃ G, Gc H H' G ∧ D.nx σ' G, fun v H' => ∃ G, Gc H H' G ∧ D.rt v G, fun σ' H' => ∃ G, Gc H H' G ∧ D.bk σ' G, fun σ' H' => ∃ G, Gc H H' G ∧ D.ct σ' G⟩ f s1) : SP X pins D f s1 := by
  cases f with
  | next =>
    obtain ⟨σ1, H1, I1, G, g, q1⟩ := q
    exact ⟨σ1, G, inv_gc I.hok I I1 g, q1⟩
  | brk =>
    obtain ⟨σ1, H1, I1, G, g, q1⟩ := q
    exact ⟨σ1, G, inv_gc I.hok I I1 g, q1⟩
  | cont =>
    obtain ⟨σ1, H1, I1, G, g, q1⟩ := q
    exact ⟨σ1, G, inv_gc I.hok I I1 g, q1⟩
  | ret u =>
    obtain ⟨v, σ1, H1, I1, r, G, g, q1⟩ := q
    exact ⟨v, σ1, G, inv_gc I.hok I I1 g, r, q1⟩
theorem ps_gc {st : Stmt} {t : TS} (h : PS X st t) : PS X st (sGc t) := ⟨fun pins s σ H D I q => thn (h.run pins s σ H _ I q) fun _ _ q1 => sp_gc I q1⟩
theorem pss_gc {st : List Stmt} {t : TS} (h : PSs X st t) : PSs X st (sGc t) := ⟨fun pins s σ H D I q => thn (h.run pins s σ H _ I q) fun _ _ q1 => sp_gc I q1⟩
end
/-- no dict with tuples for keys -/
def ND (H : Hp) : Prop := ∀ a o, H a = some o → isDT o = false
theorem ND.upd {H : Hp} {p : Addr} {o : HO} (h : ND H) (ho : isDT o = false := by rfl) : ND (upd H p o) := fun a u e => by
  by_cases q : a = p
  · subst q; rw [upd_same] at e; cases e; exact ho
  · rw [upd_ne q] at e; exact h a u e
theorem only_nd {H : Hp} (h : L2.Only H) : ND H := fun a o e => by
  rcases h a with q | ⟨o', xs, q⟩
  · rw [q] at e; cases e
  · rw [q] at e; cases e; rfl
section
variable {H H' G H1 : Hp} {p q : Addr} {o : HO}
theorem gc_same (h : Same H H') (nd : ND H) : Gc H H' H := ⟨h, fun a o e => .inr ⟨e, fun _ q => q⟩, fun _ _ e _ => e, .inl nd⟩
/-- where no tuple is new -/
theorem gc_sameT (h : Same H H') (nt : ∀ b xs, H' b = some (.tup xs) → H b = some (.tup xs)) : Gc H H' H := ⟨h, fun a o e => .inr ⟨e, fun _ q => q⟩, fun _ _ e _ => e, .inr nt⟩
def flatO : HO → Bool
  | .ins _ _ _ => false
  | .frz _ _ => false
  | .dT _ => false
  | _ => true
theorem okA_flat {G : Hp} {a : Addr} {o : HO} (h : flatO o = true) : okA G a o := by
  cases o <;> first | trivial | cases h
theorem isDT_flat {o : HO} (h : flatO o = true) : isDT o = false := by
  cases o <;> first | rfl | cases h
theorem okA_upd {G : Hp} {a p : Addr} {o u : HO} (e : H' p = some o) (sub : ∀ a o, G a = some o → H' a = some o) (k : okA G a u) : okA (upd G p o) a u := by
  induction u with
  | ins C dx fs =>
    show upd G p o dx = _
    by_cases q : dx = p
    · subst q
      have e2 : H' dx = some (.own a) := sub _ _ k
      rw [e] at e2
      rw [upd_same, e2]
    · rw [upd_ne q]
      exact k
  | frz ob u ih => exact ih k
  | _ => trivial
theorem upd_sub {G : Hp} {p b : Addr} {o u : HO} (e : H' p = some o) (h : H' b = some u) (k : G b = some u) : upd G p o b = some u := by
  by_cases q : b = p
  · subst q
    rw [upd_same, ← e, h]
  · rw [upd_ne q]
    exact k
/-- one more thing is told -/
theorem Gc.put (g : Gc H H' G) (e : H' p = some o) (f : flatO o = true := by rfl) : Gc H H' (upd G p o) where
  sub := fun a u h => by
    by_cases q : a = p
    · subst q; rw [upd_same] at h; cases h; exact e
    · rw [upd_ne q] at h; exact g.sub a u h
  ok := fun a u h => by
    by_cases q : a = p
    · subst q; rw [upd_same] at h; cases h; exact .inl (okA_flat f)
    · rw [upd_ne q] at h
      rcases g.ok a u h with k | ⟨k1, k2⟩
      · exact .inl (okA_upd e g.sub k)
      · exact .inr ⟨k1, fun b hb => upd_sub e (g.sub _ _ (k2 b hb)) (k2 b hb)⟩
  keep := fun b u h k => upd_sub e (g.sub _ _ (g.keep b u h k)) (g.keep b u h k)
  dt := by
    rcases g.dt with d | d
    · refine .inl fun a u h => ?_
      by_cases q : a = p
      · subst q; rw [upd_same] at h; cases h; exact isDT_flat f
      · rw [upd_ne q] at h; exact d a u h
    · exact .inr fun b xs h => upd_sub e h (d b xs h)
theorem same_up (h : Same H H1) (hq : H q = none) : Same H (upd H1 q o) := fun b u e => by
  rw [upd_ne (ne_of_none e hq)]
  exact h b u e
theorem same_new (h : Same H H1) (hq : H1 q = none) : Same H (upd H1 q o) := same_up h (h.free hq)
theorem upd_none {a : Addr} : upd H p o a = none ↔ a ≠ p ∧ H a = none := by
  unfold upd
  by_cases e : a = p
  · simp [e]
  · simp [e]
end

/-! ## Rules that serve several kinds at once -/
section
variable {X : Cx}
theorem OpR.or {f : Value → Value → Sem Value} {r r' : R2} (a : OpR X f r) (b : OpR X f r') : OpR X f (fun x y H Q => r x y H Q ∨ r' x y H Q) :=
  fun pins s σ H x y v u Q I rx ry h => h.elim (fun h => a pins s σ H x y v u Q I rx ry h) fun h => b pins s σ H x y v u Q I rx ry h
theorem CallR.or {f : Value} {r r' : List V → Hp → VK → Prop} (a : CallR X f r) (b : CallR X f r') : CallR X f (fun x H Q => r x H Q ∨ r' x H Q) :=
  fun pins s σ H xs us Q I rx h => h.elim (fun h => a pins s σ H xs us Q I rx h) fun h => b pins s σ H xs us Q I rx h
/-- list + list, both to be read -/
def rCatZ (K : PySem.W.Frag) : R2 := fun x y H Q => ∃ l b xs zs, x = .ref l ∧ y = .ref b ∧ SqL K H l xs ∧ SqL K H b zs ∧ xs.length + zs.length ≤ sizeLine ∧ ∀ p, H p = none → Q (.ref p) (upd H p (.lst (xs ++ zs)))
def rAddZ (K : PySem.W.Frag) : R2 := fun x y H Q => (rI0 (fun i j => .int (i + j)) x y H Q ∨ ∃ i j, x = .str i ∧ y = .str j ∧ i.length + j.length ≤ sizeLine ∧ Q (.str (i ++ j)) H) ∨ rCatZ K x y H Q
theorem op_catZ : OpR X (binaryOp .Add) (rCatZ X.K) := by
  intro pins s σ H x y v u Q I rx ry h
  obtain ⟨l, b, xs, zs, rfl, rfl, hH, hB, hz, q⟩ := h
  cases rx
  cases ry
  obtain ⟨its, r, pl, z⟩ := I.list hH
  obtain ⟨its2, r2, pl2, z2⟩ := I.list hB
  have l1 := r.length
  have l2 := r2.length
  obtain ⟨⟨cls, dd, data, sl⟩, ho, hc, n, hd⟩ := pl.isList
  obtain ⟨⟨cls2, dd2, data2, sl2⟩, ho2, hc2, n2, hd2⟩ := pl2.isList
  simp only at hc hd hc2 hd2
  subst hc hd hc2 hd2
  have e : its.toArray ++ its2.toArray = (its ++ its2).toArray := by simp
  refine concat_meets ⟨_, ho, rfl⟩ ⟨_, ho2, rfl⟩ noFill_list_add seq_list_add PySem.F.slot_list_add PySem.F.entry_list_add (PySem.F.args_list_add_2 _ _) (PyProof.Rows.list_addW l b its.toArray its2.toArray n n2 dd dd2 sl sl2 (by simp only [List.size_toArray]; omega)) ⟨ho, ho2, ?_⟩
  rw [e]
  exact ⟨.ref _, _, I.lnew (t' := s.toks) (r.append r2) (by rw [List.length_append]; omega), rfl, q _ I.fresh⟩
theorem op_addZ {K : PySem.W.Frag} (hK : X.K = K) : OpR X (binaryOp .Add) (rAddZ K) := by subst hK; exact OpR.or (OpR.or op_add op_add_str) op_catZ
def rMulZ : R2 := fun x y H Q => rI CMul (fun i j => .int (i * j)) x y H Q ∨ rRep x y H Q
theorem op_mulZ : OpR X (binaryOp .Mult) rMulZ := OpR.or op_mul op_rep
def rEqZ (K : PySem.W.Frag) : R2 := fun x y H Q => rEq x y H Q ∨ rEqD K x y H Q
def rNeZ (K : PySem.W.Frag) : R2 := fun x y H Q => rNe x y H Q ∨ rNeD K x y H Q
theorem op_eqZ {K : PySem.W.Frag} (hK : X.K = K) (hu : X.A.units + 64 < cLine) : OpR X (compareOp .Eq) (rEqZ K) := by subst hK; exact OpR.or op_eq (op_eqD hu)
theorem op_neZ {K : PySem.W.Frag} (hK : X.K = K) (hu : X.A.units + 64 < cLine) : OpR X (compareOp .NotEq) (rNeZ K) := by subst hK; exact OpR.or op_ne (op_neD hu)
end

/-! ## Further rules -/
section
variable {X : Cx}
/-- len of a text, a list, a tuple -/
def rLenZ (K : PySem.W.Frag) : List V → Hp → VK → Prop := fun xs H Q => ∃ x n, xs = [x] ∧ LenV K x H n ∧ Q (.int n) H
theorem call_lenZ {K : PySem.W.Frag} (hK : X.K = K) : CallR X (.builtin "len") (rLenZ K) := by subst hK; exact call_len
def rSlZ (K : PySem.W.Frag) : V → Option Int → Option Int → Hp → VK → Prop := fun x lo hi H Q => rSlL K x lo hi H Q ∨ rSlS x lo hi H Q
theorem sl_Z {K : PySem.W.Frag} (hK : X.K = K) : SlR X (rSlZ K) := by subst hK; exact SlR.or sl_list sl_str
theorem ix_seqZ {K : PySem.W.Frag} (hK : X.K = K) : IxR X (rIx K) := by subst hK; exact ix_seq
def tTruZ (K : PySem.W.Frag) (ta : TE) : TT := fun σ H Q => ta σ H fun x H' => ∃ k, TruV K x H' k ∧ Q k H'
theorem pt_truthZ {K : PySem.W.Frag} {a : Expr} {ta : TE} (hK : X.K = K) (ha : PE X a ta) (he : ∀ whole, isTrue a X.env whole = (do let v ← whole; standAt a.pos; holding [v] (truthy v))) : PT X a (tTruZ K ta) := by subst hK; exact pt_truth ha he
theorem call_isiZ {K : PySem.W.Frag} (hK : X.K = K) : CallR X (.builtin "isinstance") (rIsi K) := by subst hK; exact call_isi
def rListOf (K : PySem.W.Frag) : List V → Hp → VK → Prop := fun xs H Q => ∃ p ys, xs = [.ref p] ∧ (SqL K H p ys ∨ SqT K H p ys) ∧ ∀ l, H l = none → Q (.ref l) (upd H l (.lst ys))
theorem call_listZ {K : PySem.W.Frag} (hK : X.K = K) : CallR X (.type "list") (rListOf K) := by subst hK; exact call_list_of
theorem cr_sumZ {K : PySem.W.Frag} (hK : X.K = K) (hc : X.calm = true) : CallR X (.builtin "sum") (rSum K) := by subst hK; exact cr_sum hc
theorem cr_allZ {K : PySem.W.Frag} (hK : X.K = K) (hc : X.calm = true) : CallR X (.builtin "all") (rAll K) := by subst hK; exact cr_all hc
theorem cr_anyZ {K : PySem.W.Frag} (hK : X.K = K) (hc : X.calm = true) : CallR X (.builtin "any") (rAny K) := by subst hK; exact cr_any hc
theorem cr_maxZ {K : PySem.W.Frag} (hK : X.K = K) (hc : X.calm = true) : CallR X (.builtin "max") (rMax K) := by subst hK; exact cr_max hc
theorem cr_minZ {K : PySem.W.Frag} (hK : X.K = K) (hc : X.calm = true) : CallR X (.builtin "min") (rMin K) := by subst hK; exact cr_min hc
theorem pi_listZ {K : PySem.W.Frag} {tg l : Expr} {tl : TE} (hK : X.K = K) (hl : PE X l tl) : PI X tg l (iList K tl) := by subst hK; exact pi_list hl
theorem pi_tupZ {K : PySem.W.Frag} {tg l : Expr} {tl : TE} (hK : X.K = K) (hl : PE X l tl) : PI X tg l (iTup K tl) := by subst hK; exact pi_tup hl
theorem pi_enumZ {K : PySem.W.Frag} {e : Expr} {ta : TA} {p pos tpos : Pos} {elts : List Expr} {kk : Nat} (hK : X.K = K) (hg : Gl X "enumerate") (hm : X.mg "enumerate" = none) (ha : PA X [e] ta) (hs : starEach [e] X.env = [(false, eval e X.env)] := by rfl) :
    PI X (.Tuple elts kk tpos) (.Call (.Name "enumerate" p) [e] [] pos) (iEnum K ta) := by subst hK; exact pi_enum hg hm ha hs
theorem pi_zipZ {K : PySem.W.Frag} {e e2 : Expr} {ta : TA} {p pos tpos : Pos} {elts : List Expr} {kk : Nat} (hK : X.K = K) (hg : Gl X "zip") (hm : X.mg "zip" = none) (ha : PA X [e, e2] ta)
    (hs : starEach [e, e2] X.env = (false, eval e X.env) :: starEach [e2] X.env := by rfl) (hpl : (backTo pos (starEach [e2] X.env)).any (·.1) = false := by rfl) :
    PI X (.Tuple elts kk tpos) (.Call (.Name "zip" p) [e, e2] [] pos) (iZip K ta) := by subst hK; exact pi_zip hg hm ha hs hpl
theorem pe_fldZ {K : PySem.W.Frag} {e : Expr} {f : Str} {pos : Pos} {ta : TE} (hK : X.K = K) (he : PE X e ta) (hb : attributeBase e f X.env (eval e X.env) = eval e X.env) : PE X (.Attribute e f pos) (tFld K ta f) := by subst hK; exact pe_fld he hb
theorem pg_tupZ {K : PySem.W.Frag} {es : List Expr} {k : Nat} {t : TGs} {n : Nat} {pos : Pos} (hK : X.K = K) (hc : X.calm = true) (h : PGs X es t)
    (hn : (assignEach es X.env).length = n := by rfl) (hst : (assignEach es X.env).findIdx? (·.1) = none := by rfl) : PG X (.Tuple es k pos) (gTup K n t) := by subst hK; exact pg_tup hc h hn hst
theorem pe_bmZ {K : PySem.W.Frag} {o e : Expr} {es : List Expr} {to : TE} {t : TA} {name : Str} {apos cpos : Pos} {T id : String} {r : V → List V → Hp → VK → Prop} (hK : X.K = K) (pa : PlainAttrs T) (slot : Slot T name id) (hty : typeOf (.builtin id) = pure (.type "method_descriptor")) (hm : MtR X id r) (ho : PE X o to) (ha : PA X (e :: es) t)
    (hbase : attributeBase o name X.env (eval o X.env) = eval o X.env := by rfl)
    (hfew : ((backTo cpos (starEach (e :: es) X.env)).all (fun x => !x.1) && (backToKw cpos (keywordEach [] X.env)).all (fun x => x.1.isSome)
      && decide ((e :: es).length + ([] : List Keyword).length + (if ([] : List Keyword).isEmpty then 0 else 1) < 30)) = true := by rfl)
    (hline : (apos.endLine == cpos.line) = true := by rfl) (hs : starEach (e :: es) X.env = (false, eval e X.env) :: starEach es X.env := by rfl) (hplain : (backTo cpos (starEach es X.env)).any (·.1) = false := by rfl) :
    PE X (.Call (.Attribute o name apos) (e :: es) [] cpos) (tBM K T r to t) := by subst hK; exact pe_bm pa slot hty hm ho ha hbase hfew hline hs hplain
theorem pe_bm0Z {K : PySem.W.Frag} {o : Expr} {to : TE} {name : Str} {apos cpos : Pos} {T id : String} {r : V → List V → Hp → VK → Prop} (hK : X.K = K) (pa : PlainAttrs T) (slot : Slot T name id) (hty : typeOf (.builtin id) = pure (.type "method_descriptor")) (hm : MtR X id r) (ho : PE X o to)
    (hbase : attributeBase o name X.env (eval o X.env) = eval o X.env := by rfl) (hline : (apos.endLine == cpos.line) = true := by rfl) : PE X (.Call (.Attribute o name apos) [] [] cpos) (tBM0 K T r to) := by subst hK; exact pe_bm0 pa slot hty hm ho hbase hline
def tCallZ (sp : Sp) (E : XK) (t : TA) : TE := fun σ H Q => t σ H fun vs H1 => sp vs H1 Q E
variable {CX : CXT} {k : Nat} {f C : Addr} {fd : FuncData} {ps : List Str} {sp : Sp} {E : XK} {x m : Str} {p pos apos : Pos} {e o : Expr} {es : List Expr} {ta : TE} {t : TA}
theorem callZ_eq : tCall sp [] E t = tCallZ sp E t := by
  funext σ H Q
  show t σ H (fun vs H1 => sp (vs ++ []) H1 Q E) = t σ H fun vs H1 => sp vs H1 Q E
  simp only [List.append_nil]
theorem pe_callZ (F : FnOk X.prog X.w X.K X.mg X.base CX k f fd ps sp) (hr : Room k X.A) (hg : Gl X x) (hm : X.mg x = some (.ref f)) (hk : PySem.W.keepIn X.K (.ref f) = true) (hb : Binds X.K fd ps []) (hx : Passes CX X E)
    (ha : PA X (e :: es) t) (hdb : (x == ("__debug__" : Str)) = false := by decide) (he : starEach (e :: es) X.env = (false, eval e X.env) :: starEach es X.env := by rfl) (hpl : (backTo pos (starEach es X.env)).any (·.1) = false := by rfl) :
    PE X (.Call (.Name x p) (e :: es) [] pos) (tCallZ sp E t) := by
  rw [← callZ_eq]
  exact pe_call F hr hg hm hk hb .nil hx ha hdb he hpl
theorem pe_call0Z (F : FnOk X.prog X.w X.K X.mg X.base CX k f fd ps sp) (hr : Room k X.A) (hg : Gl X x) (hm : X.mg x = some (.ref f)) (hk : PySem.W.keepIn X.K (.ref f) = true) (hb : Binds X.K fd ps []) (hx : Passes CX X E)
    (hdb : (x == ("__debug__" : Str)) = false := by decide) : PE X (.Call (.Name x p) [] [] pos) (tCallZ sp E tNil) := by
  rw [← callZ_eq]
  exact pe_call0 F hr hg hm hk hb .nil hx hdb
end
/-! ## Steps: what a reading asks, one construct at a time -/
section
variable {K : PySem.W.Frag} {σ : St} {H : Hp} {nx bk ct : St → Hp → Prop} {rt : VK} {t u : TS} {te ta tb tc : TE} {tt uu : TT} {Q : VK} {QB : Bool → Hp → Prop} {QA : List V → Hp → Prop} {QO : Option Int → Hp → Prop} {v : V} {i : Nat} {b : Bool} {tr : TA}
theorem z_seq (h : t ⟨fun σ H => u ⟨nx, rt, bk, ct⟩ σ H, rt, bk, ct⟩ σ H) : tSeq t u ⟨nx, rt, bk, ct⟩ σ H := h
theorem z_asg (h : te σ H fun x H1 => nx (σ.set i (some x)) H1) : tAsg te (gName i) ⟨nx, rt, bk, ct⟩ σ H := h
theorem z_asgS {to ti : TE} {ts : TSet} (h : te σ H fun x H1 => to σ H1 fun o H2 => ti σ H2 fun j H3 => ts o j x H3 fun H4 => nx σ H4) : tAsg te (gSub to ti ts) ⟨nx, rt, bk, ct⟩ σ H := h
theorem z_asgT {n : Nat} {g : TGs} (h : te σ H fun x H1 => gTup K n g x σ H1 nx) : tAsg te (gTup K n g) ⟨nx, rt, bk, ct⟩ σ H := h
theorem z_drop (h : te σ H fun _ H1 => nx σ H1) : tDrop te ⟨nx, rt, bk, ct⟩ σ H := h
theorem z_ret (h : te σ H fun v H1 => rt v H1) : tRet te ⟨nx, rt, bk, ct⟩ σ H := h
theorem z_retN (h : rt .non H) : tRetN ⟨nx, rt, bk, ct⟩ σ H := h
theorem z_next (h : nx σ H) : tNext ⟨nx, rt, bk, ct⟩ σ H := h
theorem z_brk (h : bk σ H) : tBreak ⟨nx, rt, bk, ct⟩ σ H := h
theorem z_cont (h : ct σ H) : tCont ⟨nx, rt, bk, ct⟩ σ H := h
theorem z_ifS (h : tt σ H fun b H1 => if b = true then t ⟨nx, rt, bk, ct⟩ σ H1 else u ⟨nx, rt, bk, ct⟩ σ H1) : tIfS tt t u ⟨nx, rt, bk, ct⟩ σ H := h
theorem z_sgc (h : t ⟨fun σ' H' => ∃ G, Gc H H' G ∧ nx σ' G, fun v H' => ∃ G, Gc H H' G ∧ rt v G, fun σ' H' => ∃ G, Gc H H' G ∧ bk σ' G, fun σ' H' => ∃ G, Gc H H' G ∧ ct σ' G⟩ σ H) : sGc t ⟨nx, rt, bk, ct⟩ σ H := h
theorem z_aug {x : V} {ti : TIp} (e : σ[i]? = some (some x)) (h : te σ H fun y H1 => ti x y H1 fun z H2 => nx (σ.set i (some z)) H2) : tAug i te ti ⟨nx, rt, bk, ct⟩ σ H := ⟨x, e, h⟩
theorem z_ipI {f : Int → Int → Int} {i j : Int} (h : Q (.int (f i j)) H) : ipI f (.int i) (.int j) H Q := ⟨i, j, rfl, rfl, h⟩
theorem z_tgc (h : te σ H fun v H' => ∃ G, Gc H H' G ∧ Q v G) : tGc te σ H Q := h
theorem z_ugc (h : tt σ H fun v H' => ∃ G, Gc H H' G ∧ QB v G) : uGc tt σ H QB := h
theorem z_var (e : σ[i]? = some (some v)) (h : Q v H) : tVar i σ H Q := ⟨v, e, h⟩
theorem z_c (h : Q v H) : tC v σ H Q := h
theorem z_op {r : R2} (h : ta σ H fun x H1 => tb σ H1 fun y H2 => r x y H2 Q) : tOp r ta tb σ H Q := h
theorem z_un {r : V → Hp → VK → Prop} (h : ta σ H fun x H1 => r x H1 Q) : tUn r ta σ H Q := h
theorem z_rU {g : Int → V} {i : Int} (h : Q (g i) H) : rU g (.int i) H Q := ⟨i, rfl, h⟩
theorem z_cb {r : List V → Hp → VK → Prop} (h : tr σ H fun vs H1 => r vs H1 Q) : tCB r tr σ H Q := h
theorem z_call {sp : Sp} {E : XK} (h : tr σ H fun vs H1 => sp vs H1 Q E) : tCallZ sp E tr σ H Q := h
theorem z_nil (h : QA [] H) : tNil σ H QA := h
theorem z_cons (h : ta σ H fun x H1 => tr σ H1 fun xs H2 => QA (x :: xs) H2) : tCons ta tr σ H QA := h
theorem z_tst (h : te σ H fun x H' => ∃ k, x = .bl k ∧ QB k H') : tTest te σ H QB := h
theorem z_tB (h : te σ H fun x H' => ∃ k, x = .bl k ∧ QB k H') : tB te σ H QB := h
theorem z_bl {Qb : Bool → Prop} (h : Qb b) : ∃ k, V.bl b = .bl k ∧ Qb k := ⟨b, rfl, h⟩
theorem z_and (h : tt σ H fun c H1 => if c = true then uu σ H1 QB else QB false H1) : tAnd tt uu σ H QB := h
theorem z_or (h : tt σ H fun c H1 => if c = true then QB true H1 else uu σ H1 QB) : tOr tt uu σ H QB := h
theorem z_not (h : tt σ H fun c H1 => QB (!c) H1) : tNot tt σ H QB := h
theorem z_andV (h : ta σ H fun x H1 => ∃ c, x = .bl c ∧ if c = true then tb σ H1 Q else Q (.bl false) H1) : tAndV ta tb σ H Q := h
theorem z_orV (h : ta σ H fun x H1 => ∃ c, x = .bl c ∧ if c = true then Q (.bl true) H1 else tb σ H1 Q) : tOrV ta tb σ H Q := h
theorem z_notV (h : ta σ H fun x H1 => ∃ c, x = .bl c ∧ Q (.bl (!c)) H1) : tNotV ta σ H Q := h
theorem z_ifE (h : tt σ H fun c H1 => if c = true then ta σ H1 Q else tb σ H1 Q) : tIf tt ta tb σ H Q := h
theorem z_chain {r r' : R2} (h : ta σ H fun x H1 => tb σ H1 fun y H2 => r x y H2 fun z H3 => ∃ k, z = .bl k ∧ (if k = true then tc σ H3 fun w' H4 => r' y w' H4 Q else Q (.bl false) H3)) : tChain r r' ta tb tc σ H Q := h
theorem z_truZ (h : ta σ H fun x H' => ∃ k, TruV K x H' k ∧ QB k H') : tTruZ K ta σ H QB := h
theorem z_truB {Qb : Bool → Prop} (h : Qb b) : ∃ k, TruV K (.bl b) H k ∧ Qb k := ⟨b, rfl, h⟩
theorem z_truI {Qb : Bool → Prop} {i : Int} (h : Qb (!decide (i = 0))) : ∃ k, TruV K (.int i) H k ∧ Qb k := ⟨i != 0, rfl, by
  have e : (i != 0) = !decide (i = 0) := by
    by_cases q : i = 0
    · simp [q]
    · simp [q]
  rw [e]
  exact h⟩
theorem z_lst (h : tr σ H fun xs H1 => xs.length ≤ sizeLine ∧ ∀ p, H1 p = none → Q (.ref p) (upd H1 p (.lst xs))) : tLst tr σ H Q := h
theorem z_tup (h : tr σ H fun xs H1 => xs.length ≤ sizeLine ∧ ∀ p, H1 p = none → Q (.ref p) (upd H1 p (.tup xs))) : tTup tr σ H Q := h
theorem z_sl {r : V → Option Int → Option Int → Hp → VK → Prop} {tl th : TO} (h : te σ H fun x H1 => tl σ H1 fun l H2 => th σ H2 fun u H3 => r x l u H3 Q) : tSl r te tl th σ H Q := h
theorem z_nopart (h : QO none H) : tNoPart σ H QO := h
theorem z_part (h : te σ H fun x H1 => ∃ i, x = .int i ∧ QO (some i) H1) : tPart te σ H QO := h
theorem z_int {Qi : Int → Prop} {i : Int} (h : Qi i) : ∃ j, V.int i = .int j ∧ Qi j := ⟨i, rfl, h⟩
/-! ### operators -/
theorem z_I0 {g : Int → Int → V} {i j : Int} (h : Q (g i j) H) : rI0 g (.int i) (.int j) H Q := ⟨i, j, rfl, rfl, h⟩
theorem z_I {C : Int → Int → Prop} {g : Int → Int → V} {i j : Int} (c : C i j) (h : Q (g i j) H) : rI C g (.int i) (.int j) H Q := ⟨i, j, rfl, rfl, c, h⟩
theorem z_addI {i j : Int} (h : Q (.int (i + j)) H) : rAddZ K (.int i) (.int j) H Q := .inl (.inl ⟨i, j, rfl, rfl, h⟩)
theorem z_addS {x y : Str} (c : x.length + y.length ≤ sizeLine) (h : Q (.str (x ++ y)) H) : rAddZ K (.str x) (.str y) H Q := .inl (.inr ⟨x, y, rfl, rfl, c, h⟩)
theorem z_cat {a c : Addr} {xs zs : List V} (ha : SqL K H a xs) (hc : SqL K H c zs) (z : xs.length + zs.length ≤ sizeLine) (h : ∀ p, H p = none → Q (.ref p) (upd H p (.lst (xs ++ zs)))) : rAddZ K (.ref a) (.ref c) H Q :=
  .inr ⟨a, c, xs, zs, rfl, rfl, ha, hc, z, h⟩
theorem z_mulI {i j : Int} (c : CMul i j) (h : Q (.int (i * j)) H) : rMulZ (.int i) (.int j) H Q := .inl ⟨i, j, rfl, rfl, c, h⟩
theorem z_rep {a : Addr} {xs : List V} {k : Int} (ha : H a = some (.lst xs)) (h1 : -(2 ^ 63) ≤ k) (h2 : k < 2 ^ 63) (z : xs.length * k.toNat ≤ sizeLine) (h : ∀ p, H p = none → Q (.ref p) (upd H p (.lst (List.replicate k.toNat xs).flatten))) : rMulZ (.ref a) (.int k) H Q :=
  .inr ⟨a, k, xs, rfl, rfl, ha, h1, h2, z, h⟩
theorem z_eqI {i j : Int} (h : Q (.bl (decide (i = j))) H) : rEqZ K (.int i) (.int j) H Q := .inl ⟨rfl, by
  have e : decide (V.int i = V.int j) = decide (i = j) := by simp
  rw [e]; exact h⟩
theorem z_neI {i j : Int} (h : Q (.bl (!decide (i = j))) H) : rNeZ K (.int i) (.int j) H Q := .inl ⟨rfl, by
  have e : decide (V.int i = V.int j) = decide (i = j) := by simp
  rw [e]; exact h⟩
theorem z_eqS {x y : Str} (h : Q (.bl (decide (x = y))) H) : rEqZ K (.str x) (.str y) H Q := .inl ⟨rfl, by
  have e : decide (V.str x = V.str y) = decide (x = y) := by simp
  rw [e]; exact h⟩
theorem z_neS {x y : Str} (h : Q (.bl (!decide (x = y))) H) : rNeZ K (.str x) (.str y) H Q := .inl ⟨rfl, by
  have e : decide (V.str x = V.str y) = decide (x = y) := by simp
  rw [e]; exact h⟩
/-! ### tests that are open -/
theorem z_if {p A B : Prop} [Decidable p] (h1 : p → A) (h2 : ¬ p → B) : if decide p = true then A else B := by
  by_cases h : p
  · rw [if_pos (decide_eq_true h)]; exact h1 h
  · rw [if_neg (by rw [decide_eq_false h]; exact Bool.false_ne_true)]; exact h2 h
theorem z_ifn {p A B : Prop} [Decidable p] (h1 : ¬ p → A) (h2 : p → B) : if (!decide p) = true then A else B := by
  by_cases h : p
  · rw [if_neg (by rw [decide_eq_true h]; exact Bool.false_ne_true)]; exact h2 h
  · rw [if_pos (by rw [decide_eq_false h]; rfl)]; exact h1 h
theorem z_nn (h : Q (.bl b) H) : Q (.bl (!!b)) H := by rw [Bool.not_not]; exact h
theorem z_iT {A B : Prop} (h : A) : if true = true then A else B := by rw [if_pos rfl]; exact h
theorem z_iF {A B : Prop} (h : B) : if false = true then A else B := by rw [if_neg Bool.false_ne_true]; exact h
theorem z_inF {A B : Prop} (h : A) : if (!false) = true then A else B := h
theorem z_inT {A B : Prop} (h : B) : if (!true) = true then A else B := by
  rw [if_neg (by decide)]; exact h
/-! ### lists that are read -/
theorem at_int {ns : List Int} {i : Int} (h0 : 0 ≤ i) (h1 : i < ns.length) : atI (ns.map V.int) i = some (.int (ns.getD i.toNat 0)) := by
  obtain ⟨n, rfl⟩ : ∃ n : Nat, i = (n : Int) := ⟨i.toNat, (Int.toNat_of_nonneg h0).symm⟩
  have hl : n < ns.length := by omega
  rw [Int.toNat_natCast]
  refine atI_nat ?_
  rw [List.getElem?_map, List.getElem?_eq_getElem hl]
  simp [List.getD, hl]
theorem z_ixL {a : Addr} {xs : List V} {i : Int} (ha : SqL K H a xs) (hi : atI xs i = some v) (h : Q v H) : rIx K (.ref a) (.int i) H Q := .inl ⟨a, xs, i, v, rfl, rfl, ha, hi, h⟩
theorem z_ixT {a : Addr} {xs : List V} {i : Int} (ha : SqT K H a xs) (hi : atI xs i = some v) (h : Q v H) : rIx K (.ref a) (.int i) H Q := .inr (.inl ⟨a, xs, i, v, rfl, rfl, ha, hi, h⟩)
theorem z_ixI {a : Addr} {ns : List Int} {i : Int} (ha : SqL K H a (ns.map V.int)) (h0 : 0 ≤ i) (h1 : i < ns.length) (h : Q (.int (ns.getD i.toNat 0)) H) : rIx K (.ref a) (.int i) H Q := z_ixL ha (at_int h0 h1) h
theorem z_setI {a : Addr} {ns : List Int} {i w : Int} {R : Hp → Prop} (ha : H a = some (.lst (ns.map V.int))) (h0 : 0 ≤ i) (h1 : i < ns.length) (h : R (upd H a (.lst ((ns.set i.toNat w).map V.int)))) : rSetL (.ref a) (.int i) (.int w) H R :=
  ⟨a, _, i, i.toNat, rfl, rfl, ha, by unfold ixN; rw [if_pos h0, List.length_map, if_pos h1], by rw [← List.map_set]; exact h⟩
theorem z_lenL {a : Addr} {xs : List V} (ha : SqL K H a xs) (h : Q (.int (xs.length : Int)) H) : rLenZ K [.ref a] H Q := ⟨_, xs.length, rfl, .inl ⟨xs, ha, rfl⟩, h⟩
theorem z_lenI {a : Addr} {ns : List Int} (ha : SqL K H a (ns.map V.int)) (h : Q (.int (ns.length : Int)) H) : rLenZ K [.ref a] H Q := z_lenL ha (by rw [List.length_map]; exact h)
theorem z_slL {a : Addr} {xs : List V} {lo hi : Option Int} (ha : SqL K H a xs) (h : ∀ p, H p = none → Q (.ref p) (upd H p (.lst (cutV xs lo hi)))) : rSlZ K (.ref a) lo hi H Q := .inl ⟨a, xs, rfl, ha, h⟩
theorem z_slS {x : Str} {lo hi : Option Int} (c : x.length ≤ sizeLine) (h : Q (.str (cutS x lo hi)) H) : rSlZ K (.str x) lo hi H Q := .inr ⟨x, rfl, c, h⟩
theorem sq_up {a p : Addr} {o : HO} {xs : List V} (hp : H p = none) (h : SqL K H a xs) : SqL K (upd H p o) a xs := (same_up (fun _ _ e => e) hp : Same H (upd H p o)).seq h
end

theorem cx_K {CX : CXT} {P : Program} {w : World} {K : PySem.W.Frag} {mg : Str → Option Value} {base : Heap} {N : List Str} {qual : Str} {scope : Scope} {f : Addr} {cd : Value} {A : Around} {outer : List Env} {s : Shared} {H : Hp} {E : XK} :
    (cxOf CX P w K mg base N qual scope f cd A outer s H E).K = K := rfl

/-! ## Loops, what a turn made and dropped forgotten at its end -/
structure Rt (X : Cx) (H : Hp) : Prop where
  keep : ∀ b o, X.H_0 b = some o → kept o = true → ∃ u, H b = some u ∧ kept u = true ∧ (∀ xs, o = .tup xs → u = o) ∧ (∀ ob u', o = .frz ob u' → u = o) ∧ ∀ ps, o = .tbl ps → ∃ more, u = .tbl (ps ++ more)
  cl : ∀ a o (G : Hp), H a = some o → (∀ b, H b = some (.own a) → G b = some (.own a)) → okA G a o
section
variable {X : Cx}
theorem Rt.of {pins : List (Addr × Obj)} {σ : List (Option V)} {H : Hp} {s : Shared} (I : Inv X pins σ H s) : Rt X H where
  keep := fun b o e k => by
    cases o with
    | tup xs => exact ⟨_, I.base.tups b xs e, rfl, fun _ _ => rfl, fun _ _ _ => rfl, fun _ q => nomatch q⟩
    | frz ob u => exact ⟨_, I.base.frzs b ob u e, rfl, fun _ _ => rfl, fun _ _ _ => rfl, fun _ q => nomatch q⟩
    | tbl ps =>
      obtain ⟨more, q⟩ := I.base.tbls b ps e
      exact ⟨_, q, rfl, fun _ z => (nomatch z), fun _ _ z => (nomatch z), fun _ z => by cases z; exact ⟨more, rfl⟩⟩
    | _ => cases k
  cl := fun a o G e k => okA_of (I.hok a o e) k
theorem inv_gcR {pins : List (Addr × Obj)} {σ : List (Option V)} {H H' G : Hp} {s : Shared} (R : Rt X H) (J : Inv X pins σ H' s) (g : Gc H H' G) : Inv X pins σ G s where
  ok := J.ok
  os := J.os
  bare := J.bare
  base :=
    { keep := J.base.keep
      slot := J.base.slot
      free := fun b o q n hx => none_sub g (J.base.free b o q n hx)
      there := J.base.there
      tups := fun b xs q => by
        obtain ⟨u, e, k, h1, _, _⟩ := R.keep b _ q rfl
        rw [h1 _ rfl] at e k
        exact g.keep b _ e k
      frzs := fun b o u q => by
        obtain ⟨u', e, k, _, h1, _⟩ := R.keep b _ q rfl
        rw [h1 _ _ rfl] at e k
        exact g.keep b _ e k
      tbls := fun b ps q => by
        obtain ⟨u', e, k, _, _, h1⟩ := R.keep b _ q rfl
        obtain ⟨more, rfl⟩ := h1 _ rfl
        exact ⟨more, g.keep b _ e k⟩ }
  loc := J.loc
  cell := J.cell
  free := none_sub g J.free
  freeC := fun x c e => none_sub g (J.freeC x c e)
  pin := fun p hp => ⟨(J.pin p hp).1, none_sub g (J.pin p hp).2.1, (J.pin p hp).2.2⟩
  hok := fun a o e => by
    have x : ObjOk X.prog X.w H' s.heap a o := J.hok a o (g.sub a o e)
    refine obj_sub x ?_ ?_
    · rcases g.ok a o e with k | ⟨q, k⟩
      · exact k
      · exact R.cl a o G q k
    · rcases g.dt with d | d
      · exact .inl (d a o e)
      · exact .inr d
  len := J.len
/-- a block whose leavings are forgotten as from the heap H0 -/
def sGcE (H0 : Hp) (t : TS) : TS := fun D σ H => t ⟨fun σ' H' => ∃ G, Gc H0 H' G ∧ D.nx σ' G, fun v H' => ∃ G, Gc H0 H' G ∧ D.rt v G, fun σ' H' => ∃ G, Gc H0 H' G ∧ D.bk σ' G, fun σ' H' => ∃ G, Gc H0 H' G ∧ D.ct σ' G⟩ σ H
theorem pss_gcE {H0 : Hp} (R : Rt X H0) {st : List Stmt} {t : TS} (h : PSs X st t) : PSs X st (sGcE H0 t) := ⟨fun pins s σ H D I q => thn (h.run pins s σ H _ I q) fun f s1 q1 => by
  cases f with
  | next =>
    obtain ⟨σ1, H1, I1, G, g, q1⟩ := q1
    exact ⟨σ1, G, inv_gcR R I1 g, q1⟩
  | brk =>
    obtain ⟨σ1, H1, I1, G, g, q1⟩ := q1
    exact ⟨σ1, G, inv_gcR R I1 g, q1⟩
  | cont =>
    obtain ⟨σ1, H1, I1, G, g, q1⟩ := q1
    exact ⟨σ1, G, inv_gcR R I1 g, q1⟩
  | ret u =>
    obtain ⟨v, σ1, H1, I1, r, G, g, q1⟩ := q1
    exact ⟨v, σ1, G, inv_gcR R I1 g, r, q1⟩⟩
def ForZ (J : It) (g : TG) (tb : TS) : TS := fun D σ H => ∃ W : Nat → Nat → St → Hp → Prop, (∃ m, W 0 m σ H) ∧ ∀ i m σ H, W i m σ H →
  (J.stop i H ∧ D.nx σ H) ∨ (J.go i H ∧ ∃ N : St → Hp → Prop, (∀ σ' H', N σ' H' → ∃ m', m' < m ∧ W (i + 1) m' σ' H') ∧ ∀ x H', J.yld i H x H' → g x σ H' fun σ2 H2 => tb { D with nx := N, ct := N, bk := D.nx } σ2 H2)
def tForZ (wi : TI) (g : TG) (tb : TS) : TS := fun D σ H => wi σ H fun J H1 => ForZ J g (sGcE H tb) D σ H1
theorem ps_forZ {tg iter : Expr} {body : List Stmt} {wi : TI} {g : TG} {tb : TS} {pos : Pos} (hp : PassesOwn (model X.prog X.w) X.A X.env X.xe) (hc : X.calm = true) (hi : PI X tg iter wi) (hg : PG X tg g) (hb : PSs X body tb)
    (hs : ∀ x, foldedSetIterable iter X.env x = pure x := by intro _; rfl) : PS X (.For tg iter body [] pos) (tForZ wi g tb) :=
  ⟨fun pins s σ H D I h => (ps_for hp hc hi hg (pss_gcE (Rt.of I) hb) hs).run pins s σ H D I h⟩
def tWhileZ (c : TT) (tb : TS) : TS := fun D σ H => tWhile c (sGcE H tb) D σ H
theorem ps_whileZ {c : Expr} {body : List Stmt} {tc : TT} {tb : TS} {pos : Pos} (hp : PassesOwn (model X.prog X.w) X.A X.env X.xe) (hc : PT X c tc) (hb : PSs X body tb) : PS X (.While c body [] pos) (tWhileZ tc tb) :=
  ⟨fun pins s σ H D I h => (ps_while hp hc (pss_gcE (Rt.of I) hb)).run pins s σ H D I h⟩
end
section
variable {K : PySem.W.Frag} {σ : St} {H H0 : Hp} {nx bk ct : St → Hp → Prop} {rt : VK} {tb : TS} {g : TG} {a : Addr} {xs : List V} {tr : TA} {te : TE}
theorem z_forR1 (h : tr σ H fun vs H1 => ∃ n : Int, vs = [.int n] ∧ -(2 ^ 62) ≤ n ∧ n < 2 ^ 62 ∧ ForZ (Itr 0 n.toNat) g (sGcE H tb) ⟨nx, rt, bk, ct⟩ σ H1) : tForZ (iRng1 tr) g tb ⟨nx, rt, bk, ct⟩ σ H := h
theorem z_forR2 (h : tr σ H fun vs H1 => ∃ i j : Int, vs = [.int i, .int j] ∧ (-(2 ^ 62) ≤ i ∧ i < 2 ^ 62 ∧ -(2 ^ 62) ≤ j ∧ j < 2 ^ 62) ∧ ForZ (Itr i (j - i).toNat) g (sGcE H tb) ⟨nx, rt, bk, ct⟩ σ H1) : tForZ (iRng2 tr) g tb ⟨nx, rt, bk, ct⟩ σ H := h
theorem z_forL (h : te σ H fun x H1 => ∃ a, x = .ref a ∧ (∃ xs, SqL K H1 a xs) ∧ ForZ (Itl K a) g (sGcE H tb) ⟨nx, rt, bk, ct⟩ σ H1) : tForZ (iList K te) g tb ⟨nx, rt, bk, ct⟩ σ H := h
theorem z_forT (h : te σ H fun x H1 => ∃ a, x = .ref a ∧ (∃ xs, SqT K H1 a xs) ∧ ForZ (Itt K a) g (sGcE H tb) ⟨nx, rt, bk, ct⟩ σ H1) : tForZ (iTup K te) g tb ⟨nx, rt, bk, ct⟩ σ H := h
theorem z_forE (h : tr σ H fun vs H1 => ∃ a xs, vs = [.ref a] ∧ SqL K H1 a xs ∧ ForZ (Ite K a) g (sGcE H tb) ⟨nx, rt, bk, ct⟩ σ H1) : tForZ (iEnum K tr) g tb ⟨nx, rt, bk, ct⟩ σ H := h
theorem z_rn1 {R : Int → Prop} {n : Int} (h0 : -(2 ^ 62) ≤ n) (h1 : n < 2 ^ 62) (h : R n) : ∃ m : Int, [V.int n] = [V.int m] ∧ -(2 ^ 62) ≤ m ∧ m < 2 ^ 62 ∧ R m := ⟨n, rfl, h0, h1, h⟩
theorem z_rn2 {R : Int → Int → Prop} {m n : Int} (h0 : -(2 ^ 62) ≤ m ∧ m < 2 ^ 62 ∧ -(2 ^ 62) ≤ n ∧ n < 2 ^ 62) (h : R m n) : ∃ i j : Int, [V.int m, V.int n] = [V.int i, V.int j] ∧ (-(2 ^ 62) ≤ i ∧ i < 2 ^ 62 ∧ -(2 ^ 62) ≤ j ∧ j < 2 ^ 62) ∧ R i j := ⟨m, n, rfl, h0, h⟩
/-- over a range, by what holds between the turns -/
theorem f_range {lo : Int} {n : Nat} (Pv : Nat → St → Hp → Prop) (h0 : Pv 0 σ H)
    (hs : ∀ i σ H, i < n → Pv i σ H → g (.int (lo + i)) σ H fun σ2 H2 => tb ⟨fun σ' H' => ∃ G, Gc H0 H' G ∧ Pv (i + 1) σ' G, fun v H' => ∃ G, Gc H0 H' G ∧ rt v G, fun σ' H' => ∃ G, Gc H0 H' G ∧ nx σ' G, fun σ' H' => ∃ G, Gc H0 H' G ∧ Pv (i + 1) σ' G⟩ σ2 H2) (hd : ∀ σ H, Pv n σ H → nx σ H) :
    ForZ (Itr lo n) g (sGcE H0 tb) ⟨nx, rt, bk, ct⟩ σ H := for_range (D := ⟨nx, rt, bk, ct⟩) (tb := sGcE H0 tb) Pv h0 hs hd
theorem f_list (Pv : Nat → St → Hp → Prop) (h0 : Pv 0 σ H) (hl : ∀ i σ H, i ≤ xs.length → Pv i σ H → SqL K H a xs)
    (hs : ∀ i x σ H, xs[i]? = some x → Pv i σ H → g x σ H fun σ2 H2 => tb ⟨fun σ' H' => ∃ G, Gc H0 H' G ∧ Pv (i + 1) σ' G, fun v H' => ∃ G, Gc H0 H' G ∧ rt v G, fun σ' H' => ∃ G, Gc H0 H' G ∧ nx σ' G, fun σ' H' => ∃ G, Gc H0 H' G ∧ Pv (i + 1) σ' G⟩ σ2 H2) (hd : ∀ σ H, Pv xs.length σ H → nx σ H) :
    ForZ (Itl K a) g (sGcE H0 tb) ⟨nx, rt, bk, ct⟩ σ H := for_list (D := ⟨nx, rt, bk, ct⟩) (tb := sGcE H0 tb) Pv h0 hl hs hd
theorem f_tup (Pv : Nat → St → Hp → Prop) (h0 : Pv 0 σ H) (hl : ∀ i σ H, i ≤ xs.length → Pv i σ H → SqT K H a xs)
    (hs : ∀ i x σ H, xs[i]? = some x → Pv i σ H → g x σ H fun σ2 H2 => tb ⟨fun σ' H' => ∃ G, Gc H0 H' G ∧ Pv (i + 1) σ' G, fun v H' => ∃ G, Gc H0 H' G ∧ rt v G, fun σ' H' => ∃ G, Gc H0 H' G ∧ nx σ' G, fun σ' H' => ∃ G, Gc H0 H' G ∧ Pv (i + 1) σ' G⟩ σ2 H2) (hd : ∀ σ H, Pv xs.length σ H → nx σ H) :
    ForZ (Itt K a) g (sGcE H0 tb) ⟨nx, rt, bk, ct⟩ σ H := for_tup (D := ⟨nx, rt, bk, ct⟩) (tb := sGcE H0 tb) Pv h0 hl hs hd
/-- over a list of whole numbers -/
theorem f_ints {ns : List Int} (Pv : Nat → St → Hp → Prop) (h0 : Pv 0 σ H) (hl : ∀ i σ H, i ≤ ns.length → Pv i σ H → SqL K H a (ns.map V.int))
    (hs : ∀ (i : Nat) (n : Int) σ H, ns[i]? = some n → Pv i σ H → g (.int n) σ H fun σ2 H2 => tb ⟨fun σ' H' => ∃ G, Gc H0 H' G ∧ Pv (i + 1) σ' G, fun v H' => ∃ G, Gc H0 H' G ∧ rt v G, fun σ' H' => ∃ G, Gc H0 H' G ∧ nx σ' G, fun σ' H' => ∃ G, Gc H0 H' G ∧ Pv (i + 1) σ' G⟩ σ2 H2) (hd : ∀ σ H, Pv ns.length σ H → nx σ H) :
    ForZ (Itl K a) g (sGcE H0 tb) ⟨nx, rt, bk, ct⟩ σ H :=
  f_list (xs := ns.map V.int) Pv h0 (fun i σ H hi => hl i σ H (by rw [List.length_map] at hi; exact hi)) (fun i x σ H hx p => by
    rw [List.getElem?_map] at hx
    cases e : ns[i]? with
    | none => rw [e] at hx; cases hx
    | some n => rw [e] at hx; cases hx; exact hs i n σ H e p) (fun σ H p => hd σ H (by rw [List.length_map] at p; exact p))
theorem z_gn {i : Nat} {v : V} {Q : St → Hp → Prop} (h : Q (σ.set i (some v)) H) : gName i v σ H Q := h
/-! ### forgetting nothing -/
def Mu (H : Hp) (p : Addr) : Prop := ∀ o, H p = some o → kept o = false ∧ ∀ a, o ≠ .own a
theorem mu_none {p : Addr} (h : H p = none) : Mu H p := fun o e => by rw [h] at e; cases e
theorem mu_lst {p : Addr} {ys : List V} (h : H p = some (.lst ys)) : Mu H p := fun o e => by rw [h] at e; cases e; exact ⟨rfl, fun _ q => nomatch q⟩
theorem mu_dK {p : Addr} {ys : List (Key × V)} (h : H p = some (.dK ys)) : Mu H p := fun o e => by rw [h] at e; cases e; exact ⟨rfl, fun _ q => nomatch q⟩
theorem mu_ins {p C dx : Addr} {ys : List (Str × V)} (h : H p = some (.ins C dx ys)) : Mu H p := fun o e => by rw [h] at e; cases e; exact ⟨rfl, fun _ q => nomatch q⟩
theorem mu_atL {p : Addr} {ys : List V} : Mu (upd H p (.lst ys)) p := mu_lst upd_same
theorem mu_atD {p : Addr} {ys : List (Key × V)} : Mu (upd H p (.dK ys)) p := mu_dK upd_same
theorem mu_up {p q : Addr} {o : HO} (h : Mu H p) (e : p ≠ q) : Mu (upd H q o) p := fun u z => by rw [upd_ne e] at z; exact h u z
theorem gc_refl : Gc H H H := ⟨fun _ _ e => e, fun a o e => .inr ⟨e, fun _ q => q⟩, fun _ _ e _ => e, .inr fun _ _ e => e⟩
theorem gc_up {H' : Hp} {p : Addr} {o : HO} (g : Gc H H' H') (m : Mu H p) (m' : Mu H' p) (f : flatO o = true := by rfl) : Gc H (upd H' p o) (upd H' p o) where
  sub := fun _ _ e => e
  ok := fun a u h => by
    by_cases q : a = p
    · subst q; rw [upd_same] at h; cases h; exact .inl (okA_flat f)
    · rw [upd_ne q] at h
      rcases g.ok a u h with k | ⟨k1, k2⟩
      · refine .inl ?_
        clear h
        induction u with
        | ins C dx fs =>
          show upd H' p o dx = _
          have z : dx ≠ p := fun z => by subst z; exact (m' _ k).2 _ rfl
          rw [upd_ne z]; exact k
        | frz ob u ih => exact ih k
        | _ => trivial
      · refine .inr ⟨k1, fun b hb => ?_⟩
        have z : b ≠ p := fun z => by subst z; exact (m _ hb).2 _ rfl
        rw [upd_ne z]
        exact k2 b hb
  keep := fun b u h k => by
    have z : b ≠ p := fun z => by subst z; rw [(m _ h).1] at k; cases k
    rw [upd_ne z]
    exact g.keep b u h k
  dt := .inr fun _ _ e => e
end

/-! ## Comprehensions -/
def LcZ (J : It) (g : TG) (tt : TT) (te : TE) (vs : List Nat) : TE := fun σ H1 Q => ∀ D, H1 D = none → ∃ W : Nat → Nat → Hp → Prop, (∃ m, W 0 m (upd H1 D (.lst []))) ∧ ∀ i m H, W i m H →
  (J.stop i H ∧ Q (.ref D) H) ∨ (J.go i H ∧ ∃ Nx : Hp → Prop, (∀ H', Nx H' → ∃ m', m' < m ∧ W (i + 1) m' H') ∧ ∀ x H', J.yld i H x H' → g x (wipe σ vs) H' fun σ2 H2 => wipe σ2 vs = wipe σ vs ∧ tt σ2 H2 fun b H3 =>
    if b = true then te σ2 H3 fun y H4 => ∃ acc, H4 D = some (.lst acc) ∧ acc.length < sizeLine ∧ Nx (upd H4 D (.lst (acc ++ [y]))) else Nx H3)
section
variable {K : PySem.W.Frag} {σ : St} {H : Hp} {Q : VK} {g : TG} {tt : TT} {te tl : TE} {ws : List Nat} {tr : TA} {a : Addr} {j : Nat}
theorem z_lcR1 (h : tr σ H fun vs H1 => ∃ n : Int, vs = [.int n] ∧ -(2 ^ 62) ≤ n ∧ n < 2 ^ 62 ∧ LcZ (Itr 0 n.toNat) g tt te ws σ H1 Q) : tLc (iRng1 tr) g tt te ws σ H Q := h
theorem z_lcR2 (h : tr σ H fun vs H1 => ∃ i j : Int, vs = [.int i, .int j] ∧ (-(2 ^ 62) ≤ i ∧ i < 2 ^ 62 ∧ -(2 ^ 62) ≤ j ∧ j < 2 ^ 62) ∧ LcZ (Itr i (j - i).toNat) g tt te ws σ H1 Q) : tLc (iRng2 tr) g tt te ws σ H Q := h
theorem z_lcL (h : tl σ H fun x H1 => ∃ a, x = .ref a ∧ (∃ xs, SqL K H1 a xs) ∧ LcZ (Itl K a) g tt te ws σ H1 Q) : tLc (iList K tl) g tt te ws σ H Q := h
theorem z_lcS (h : tl σ H fun v H1 => ∃ x, v = .str x ∧ LcZ (Its x) g tt te ws σ H1 Q) : tLc (iStr tl) g tt te ws σ H Q := h
theorem c_range {lo : Int} {n : Nat} (f : Nat → V) (hz : n ≤ sizeLine) (hw : ∀ x, wipe ((wipe σ ws).set j (some x)) ws = wipe σ ws)
    (he : ∀ (i : Nat) H1 (R : VK), i < n → Same H H1 → R (f i) H1 → te ((wipe σ ws).set j (some (.int (lo + i)))) H1 R)
    (k : ∀ D, H D = none → Q (.ref D) (upd H D (.lst ((List.range n).map f)))) : LcZ (Itr lo n) (gName j) tYes te ws σ H Q := fun D hD =>
  lc_range (lo := lo) (n := n) (g := gName j) (tt := tYes) (te := te) (vs := ws) (σ := σ) (fun i H' => H' = upd H D (.lst ((List.range i).map f))) rfl (fun i H' hi e => by
    subst e
    refine ⟨hw _, ?_⟩
    unfold tYes
    refine iteT ?_
    refine he i _ _ hi (same_up (fun _ _ e => e) hD) ⟨_, upd_same, by simp; omega, ?_⟩
    rw [upd_upd, List.range_succ, List.map_append] <;> rfl) fun H' e => by subst e; exact k D hD
theorem c_list {xs : List V} (f : V → V) (hx : SqL K H a xs) (hw : ∀ x, wipe ((wipe σ ws).set j (some x)) ws = wipe σ ws) (hz : xs.length ≤ sizeLine)
    (he : ∀ (i : Nat) (x : V) H1 (R : VK), xs[i]? = some x → Same H H1 → R (f x) H1 → te ((wipe σ ws).set j (some x)) H1 R)
    (k : ∀ D, H D = none → Q (.ref D) (upd H D (.lst (xs.map f)))) : LcZ (Itl K a) (gName j) tYes te ws σ H Q := fun D hD =>
  lc_list (K := K) (a := a) (xs := xs) (g := gName j) (tt := tYes) (te := te) (vs := ws) (σ := σ) (fun i H' => H' = upd H D (.lst ((xs.take i).map f))) (by simp) (fun i H' _ e => by subst e; exact sq_up hD hx) (fun i x H' hi e => by
    subst e
    refine ⟨hw _, ?_⟩
    unfold tYes
    refine iteT ?_
    have hlt := (List.getElem?_eq_some_iff.mp hi).1
    refine he i x _ _ hi (same_up (fun _ _ e => e) hD) ⟨_, upd_same, by simp; omega, ?_⟩
    rw [upd_upd]
    have e2 : xs.take (i + 1) = xs.take i ++ [x] := by rw [List.take_add_one, hi] <;> rfl
    rw [e2, List.map_append] <;> rfl) fun H' e => by subst e; have := k D hD; rw [List.take_length]; exact this
theorem c_ints {ns : List Int} (f : Int → V) (hx : SqL K H a (ns.map V.int)) (hw : ∀ x, wipe ((wipe σ ws).set j (some x)) ws = wipe σ ws) (hz : ns.length ≤ sizeLine)
    (he : ∀ (i : Nat) (x : Int) H1 (R : VK), ns[i]? = some x → Same H H1 → R (f x) H1 → te ((wipe σ ws).set j (some (.int x))) H1 R)
    (k : ∀ D, H D = none → Q (.ref D) (upd H D (.lst (ns.map f)))) : LcZ (Itl K a) (gName j) tYes te ws σ H Q :=
  c_list (xs := ns.map V.int) (fun v => match v with | .int i => f i | v => v) hx hw (by rw [List.length_map]; exact hz) (fun i x H1 R hi s q => by
    rw [List.getElem?_map] at hi
    cases e : ns[i]? with
    | none => rw [e] at hi; cases hi
    | some n => rw [e] at hi; cases hi; exact he i n H1 R e s q) fun D hD => by
      have := k D hD
      rw [List.map_map]
      exact this
end
/-! ## isinstance, ends, bits -/
section
variable {K : PySem.W.Frag} {σ : St} {H : Hp} {Q : VK} {R : Hp → Prop}
theorem z_isi {x : V} {n m : String} {b : Bool} (ty : TyX K H x (.type n)) (e : PySem.W.kitOne K (.type n) (.type m) = some b) (h : Q (.bl b) H) : rIsi K [x, .ty m] H Q := ⟨x, .ty m, _, _, b, rfl, .ty m, ty, e, h⟩
theorem z_isiII {i : Int} (h : Q (.bl true) H) : rIsi K [.int i, .ty "int"] H Q := z_isi (.base (.int i)) (kit_ty (by decide +kernel)) h
theorem z_isiIB {i : Int} (h : Q (.bl false) H) : rIsi K [.int i, .ty "bool"] H Q := z_isi (.base (.int i)) (kit_ty (by decide +kernel)) h
theorem z_isiIL {i : Int} (h : Q (.bl false) H) : rIsi K [.int i, .ty "list"] H Q := z_isi (.base (.int i)) (kit_ty (by decide +kernel)) h
theorem z_isiIS {i : Int} (h : Q (.bl false) H) : rIsi K [.int i, .ty "str"] H Q := z_isi (.base (.int i)) (kit_ty (by decide +kernel)) h
theorem z_isiBI {i : Bool} (h : Q (.bl true) H) : rIsi K [.bl i, .ty "int"] H Q := z_isi (.base (.bl i)) (kit_ty (by decide +kernel)) h
theorem z_isiBB {i : Bool} (h : Q (.bl true) H) : rIsi K [.bl i, .ty "bool"] H Q := z_isi (.base (.bl i)) (kit_ty (by decide +kernel)) h
theorem z_isiNI (h : Q (.bl false) H) : rIsi K [.non, .ty "int"] H Q := z_isi (.base .non) (kit_ty (by decide +kernel)) h
theorem z_isiNL (h : Q (.bl false) H) : rIsi K [.non, .ty "list"] H Q := z_isi (.base .non) (kit_ty (by decide +kernel)) h
theorem z_isiNS (h : Q (.bl false) H) : rIsi K [.non, .ty "str"] H Q := z_isi (.base .non) (kit_ty (by decide +kernel)) h
theorem z_isiSS {x : Str} (h : Q (.bl true) H) : rIsi K [.str x, .ty "str"] H Q := z_isi (.base (.str x)) (kit_ty (by decide +kernel)) h
theorem z_isiSI {x : Str} (h : Q (.bl false) H) : rIsi K [.str x, .ty "int"] H Q := z_isi (.base (.str x)) (kit_ty (by decide +kernel)) h
theorem z_isiSL {x : Str} (h : Q (.bl false) H) : rIsi K [.str x, .ty "list"] H Q := z_isi (.base (.str x)) (kit_ty (by decide +kernel)) h
theorem z_isiLL {a : Addr} {xs : List V} (e : H a = some (.lst xs)) (h : Q (.bl true) H) : rIsi K [.ref a, .ty "list"] H Q := z_isi (.base (.lst e)) (kit_ty (by decide +kernel)) h
theorem z_isiLI {a : Addr} {xs : List V} (e : H a = some (.lst xs)) (h : Q (.bl false) H) : rIsi K [.ref a, .ty "int"] H Q := z_isi (.base (.lst e)) (kit_ty (by decide +kernel)) h
theorem z_isiLS {a : Addr} {xs : List V} (e : H a = some (.lst xs)) (h : Q (.bl false) H) : rIsi K [.ref a, .ty "str"] H Q := z_isi (.base (.lst e)) (kit_ty (by decide +kernel)) h
theorem z_isiTT {a : Addr} {xs : List V} (e : H a = some (.tup xs)) (h : Q (.bl true) H) : rIsi K [.ref a, .ty "tuple"] H Q := z_isi (.base (.tup e)) (kit_ty (by decide +kernel)) h
theorem z_isiTL {a : Addr} {xs : List V} (e : H a = some (.tup xs)) (h : Q (.bl false) H) : rIsi K [.ref a, .ty "list"] H Q := z_isi (.base (.tup e)) (kit_ty (by decide +kernel)) h
theorem z_isiTI {a : Addr} {xs : List V} (e : H a = some (.tup xs)) (h : Q (.bl false) H) : rIsi K [.ref a, .ty "int"] H Q := z_isi (.base (.tup e)) (kit_ty (by decide +kernel)) h
/-- nothing was made -/
theorem z_gc0 (h : R H) : ∃ G, Gc H H G ∧ R G := ⟨H, gc_refl, h⟩
theorem z_gc {H' G : Hp} (g : Gc H H' G) (h : R G) : ∃ G, Gc H H' G ∧ R G := ⟨G, g, h⟩
/-- one thing was made, and is told -/
theorem z_gcN {p : Addr} {o : HO} (hp : H p = none) (f : flatO o = true) (h : R (upd H p o)) : ∃ G, Gc H (upd H p o) G ∧ R G := ⟨_, gc_up gc_refl (mu_none hp) (mu_none hp) f, h⟩
end
section
theorem and_nat (a b : Nat) : Builtin.bitAnd (a : Int) (b : Int) = ((a &&& b : Nat) : Int) := by rw [PyProof.Rows.bitAnd_pp (by omega) (by omega)] <;> rfl
theorem xor_nat (a b : Nat) : Builtin.bitXor (a : Int) (b : Int) = ((a ^^^ b : Nat) : Int) := by rw [Bits.bitXor_pp (by omega) (by omega)] <;> rfl
theorem or_nat (a b : Nat) : Builtin.bitOr (a : Int) (b : Int) = ((a ||| b : Nat) : Int) := by rw [Bits.bitOr_pp (by omega) (by omega)] <;> rfl
end
/-- a row of bytes -/
def Byt (ns : List Int) : Prop := ∀ n ∈ ns, 0 ≤ n ∧ n < 256

section
variable {K : PySem.W.Frag} {σ : St} {H : Hp} {Q : VK} {te : TE} {ws : List Nat} {a : Addr} {j : Nat}
/-- whole numbers of which is told what holds of each -/
theorem c_rangeP {lo : Int} {n : Nat} (Pr : Nat → Int → Prop) (hz : n ≤ sizeLine) (hw : ∀ x, wipe ((wipe σ ws).set j (some x)) ws = wipe σ ws)
    (he : ∀ (i : Nat) H1 (R : VK), i < n → Same H H1 → (∀ y, Pr i y → R (.int y) H1) → te ((wipe σ ws).set j (some (.int (lo + i)))) H1 R)
    (k : ∀ D (ns : List Int), H D = none → ns.length = n → (∀ (i : Nat) y, ns[i]? = some y → Pr i y) → Q (.ref D) (upd H D (.lst (ns.map V.int)))) : LcZ (Itr lo n) (gName j) tYes te ws σ H Q := fun D hD =>
  lc_range (lo := lo) (n := n) (g := gName j) (tt := tYes) (te := te) (vs := ws) (σ := σ) (fun i H' => ∃ ns : List Int, ns.length = i ∧ (∀ (i : Nat) y, ns[i]? = some y → Pr i y) ∧ H' = upd H D (.lst (ns.map V.int))) ⟨[], rfl, fun i y e => by simp at e, rfl⟩ (fun i H' hi ⟨ns, hl, hp, e⟩ => by
    subst e
    refine ⟨hw _, ?_⟩
    unfold tYes
    refine iteT ?_
    refine he i _ _ hi (same_up (fun _ _ e => e) hD) fun y hy => ⟨_, upd_same, by rw [List.length_map]; omega, ns ++ [y], by simp [hl], fun m z e => ?_, by rw [upd_upd, List.map_append] <;> rfl⟩
    rw [List.getElem?_append] at e
    split at e
    · exact hp m z e
    · rename_i h
      have em : m - ns.length = 0 := by
        cases q : m - ns.length with
        | zero => rfl
        | succ d => rw [q] at e; simp at e
      rw [em] at e
      have ez : y = z := by simpa using e
      subst ez
      have : m = i := by omega
      subst this
      exact hy) fun H' ⟨ns, hl, hp, e⟩ => by subst e; exact k D ns hD hl hp
end
theorem byt_of {ns : List Int} (h : ∀ (i : Nat) y, ns[i]? = some y → 0 ≤ y ∧ y < 256) : Byt ns := fun n hn => by
  obtain ⟨i, hi, e⟩ := List.mem_iff_getElem.mp hn
  exact h i n (by rw [List.getElem?_eq_getElem hi, e])
/-! ## == of lists of whole numbers -/
section
variable {K : PySem.W.Frag} {H : Hp} {Q : VK}
theorem dpAll_ints {K : PySem.W.Frag} {H : Hp} : ∀ ns : List Int, DpAll K H (ns.map V.int) (ns.map PyData.int)
  | [] => .nil
  | n :: ns => .cons (.int n) (dpAll_ints ns)
theorem dp_ints {a : Addr} {ns : List Int} (h : SqL K H a (ns.map V.int)) : Dp K H (.ref a) (.list (ns.map PyData.int)) := .lst h (dpAll_ints ns)
theorem canLay_ints : ∀ ns : List Int, PyData.canLayAll0 (ns.map PyData.int) = true
  | [] => rfl
  | n :: ns => by
    show (PyData.canLay0 (.int n) && PyData.canLayAll0 (ns.map PyData.int)) = true
    rw [canLay_ints ns] <;> rfl
theorem depth_ints : ∀ ns : List Int, PyData.depthAll (ns.map PyData.int) = 0
  | [] => rfl
  | n :: ns => by
    show max (PyData.depth (.int n)) (PyData.depthAll (ns.map PyData.int)) = 0
    rw [depth_ints ns] <;> rfl
theorem shaped_ints (ns : List Int) : SeqAt.shaped (.list (ns.map PyData.int)) = true := by
  unfold SeqAt.shaped
  rw [show PyData.canLay0 (.list (ns.map PyData.int)) = true from canLay_ints ns]
  rw [show PyData.depth (.list (ns.map PyData.int)) = 1 from by show PyData.depthAll _ + 1 = 1; rw [depth_ints]] <;> rfl
theorem eqvAll_ints : ∀ ns ms : List Int, PyData.eqvAll (ns.map PyData.int) (ms.map PyData.int) = decide (ns = ms)
  | [], [] => rfl
  | [], m :: ms => rfl
  | n :: ns, [] => rfl
  | n :: ns, m :: ms => by
    show (n == m && PyData.eqvAll (ns.map PyData.int) (ms.map PyData.int)) = _
    rw [eqvAll_ints ns ms]
    by_cases h : n = m
    · subst h; simp
    · simp [h]
theorem eqv_ints (ns ms : List Int) : PyData.eqv (.list (ns.map PyData.int)) (.list (ms.map PyData.int)) = decide (ns = ms) := eqvAll_ints ns ms
theorem z_eqL {a b : Addr} {ns ms : List Int} (ha : SqL K H a (ns.map V.int)) (hb : SqL K H b (ms.map V.int)) (h : Q (.bl (decide (ns = ms))) H) : rEqZ K (.ref a) (.ref b) H Q :=
  .inr ⟨_, _, dp_ints ha, dp_ints hb, shaped_ints ns, shaped_ints ms, by rw [eqv_ints]; exact h⟩
theorem z_neL {a b : Addr} {ns ms : List Int} (ha : SqL K H a (ns.map V.int)) (hb : SqL K H b (ms.map V.int)) (h : Q (.bl (!decide (ns = ms))) H) : rNeZ K (.ref a) (.ref b) H Q :=
  .inr ⟨_, _, dp_ints ha, dp_ints hb, shaped_ints ns, shaped_ints ms, by rw [eqv_ints]; exact h⟩
end

/-! ## Heaps that grow -/
section
variable {K : PySem.W.Frag} {H H1 H' : Hp} {p q a : Addr} {o u : HO} {xs : List V}
def isTup : HO → Bool
  | .tup _ => true
  | _ => false
/-- what stood stands, no tuple is new -/
structure Sx (H H1 : Hp) : Prop where
  same : Same H H1
  nt : ∀ b xs, H1 b = some (.tup xs) → H b = some (.tup xs)
theorem sx_refl : Sx H H := ⟨fun _ _ e => e, fun _ _ e => e⟩
theorem sx_up (s : Sx H H1) (hq : H q = none) (ho : isTup o = false) : Sx H (upd H1 q o) := ⟨same_up s.same hq, fun b xs e => by
  by_cases z : b = q
  · subst z; rw [upd_same] at e; cases e; cases ho
  · rw [upd_ne z] at e; exact s.nt b xs e⟩
theorem sx_new (s : Sx H H1) (hq : H1 q = none) (ho : isTup o = false) : Sx H (upd H1 q o) := sx_up s (s.same.free hq) ho
theorem gc_sx (s : Sx H H1) : Gc H H1 H := gc_sameT s.same s.nt
theorem get_new (hq : H1 q = none) (h : H1 p = some o) : upd H1 q u p = some o := by rw [upd_ne (ne_of_none h hq)]; exact h
theorem ne_new (hq : upd H p o q = none) : q ≠ p := (upd_none.mp hq).1
theorem none_new (hq : upd H p o q = none) : H q = none := (upd_none.mp hq).2
theorem sq_new (hq : H1 q = none) (h : SqL K H1 a xs) : SqL K (upd H1 q u) a xs := sq_up hq h
end

section
variable {K : PySem.W.Frag} {H H0 H1 H' : Hp} {p q a : Addr} {o u : HO} {xs : List V}
def looseO : HO → Bool
  | .own _ => false
  | .tup _ => false
  | .frz _ _ => false
  | .tbl _ => false
  | _ => true
/-- H0 has more than H: things that may be dropped -/
structure Bs (H H0 : Hp) : Prop where
  same : Same H H0
  back : ∀ b u, H0 b = some u → looseO u = false → H b = some u
theorem bs_refl : Bs H H := ⟨fun _ _ e => e, fun _ _ e _ => e⟩
theorem bs_up (s : Bs H H1) (hq : H q = none) (ho : looseO o = true) : Bs H (upd H1 q o) := ⟨same_up s.same hq, fun b u e k => by
  by_cases z : b = q
  · subst z; rw [upd_same] at e; cases e; rw [ho] at k; cases k
  · rw [upd_ne z] at e; exact s.back b u e k⟩
theorem bs_new (s : Bs H H1) (hq : H1 q = none) (ho : looseO o = true) : Bs H (upd H1 q o) := bs_up s (s.same.free hq) ho
theorem kept_loose {o : HO} (h : kept o = true) : looseO o = false := by cases o <;> first | rfl | cases h
/-- back to a smaller heap -/
theorem gc_bs (b : Bs H H0) (s : Sx H H') : Gc H0 H' H := ⟨s.same, fun a o e => .inr ⟨b.same a o e, fun c h => b.back c _ h rfl⟩, fun c u e k => b.back c u e (kept_loose k), .inr s.nt⟩
theorem gc_bsD (b : Bs H H0) (s : Same H H') (nd : ND H) : Gc H0 H' H := ⟨s, fun a o e => .inr ⟨b.same a o e, fun c h => b.back c _ h rfl⟩, fun c u e k => b.back c u e (kept_loose k), .inl nd⟩
theorem gc_mut {p : Addr} {xs ys : List V} : Gc (upd H p (.lst xs)) (upd H p (.lst ys)) (upd H p (.lst ys)) := by
  have g : Gc (upd H p (.lst xs)) (upd (upd H p (.lst xs)) p (.lst ys)) (upd (upd H p (.lst xs)) p (.lst ys)) := gc_up gc_refl mu_atL mu_atL
  rw [upd_upd] at g
  exact g
theorem sq_same (s : Same H H1) (h : SqL K H a xs) : SqL K H1 a xs := s.seq h
end

theorem gc_one {H H0 H' : Hp} {p : Addr} {o : HO} (b : Bs H H0) (s : Sx H H') (e : H' p = some o) (f : flatO o = true := by rfl) : Gc H0 H' (upd H p o) := (gc_bs b s).put e f

theorem upd_comm {H : Hp} {p q : Addr} {o u : HO} (h : p ≠ q) : upd (upd H p o) q u = upd (upd H q u) p o := by
  funext b
  unfold upd
  by_cases e : b = q
  · subst e
    have : ¬ b = p := fun z => h z.symm
    simp [this]
  · simp [e]

section
variable {K : PySem.W.Frag} {σ : St} {H : Hp} {Q : VK} {R A B : Prop} {p a : Addr} {xs ys : List V} {y : V}
theorem z_ifR {α : Type} [DecidableEq α] {x : α} (h : A) : if decide (x = x) = true then A else B := by rw [if_pos (decide_eq_true rfl)]; exact h
theorem z_ifnR {α : Type} [DecidableEq α] {x : α} (h : B) : if (!decide (x = x)) = true then A else B := by rw [decide_eq_true (rfl : x = x)]; exact z_inT h
theorem z_ifY {c : Prop} [Decidable c] (hc : c) (h : A) : if decide c = true then A else B := by rw [if_pos (decide_eq_true hc)]; exact h
theorem z_ifN {c : Prop} [Decidable c] (hc : ¬ c) (h : B) : if decide c = true then A else B := by rw [if_neg (by rw [decide_eq_false hc]; exact Bool.false_ne_true)]; exact h
theorem z_ifnY {c : Prop} [Decidable c] (hc : c) (h : B) : if (!decide c) = true then A else B := by rw [decide_eq_true hc]; exact z_inT h
theorem z_ifnN {c : Prop} [Decidable c] (hc : ¬ c) (h : A) : if (!decide c) = true then A else B := by rw [decide_eq_false hc]; exact z_inF h
theorem z_list (hp : SqL K H p ys) (h : ∀ l, H l = none → Q (.ref l) (upd H l (.lst ys))) : rListOf K [.ref p] H Q := ⟨p, ys, rfl, .inl hp, h⟩
theorem z_bm {T : String} {r : V → List V → Hp → VK → Prop} {to : TE} {t : TA} (h : to σ H fun x H1 => tyV K T x H1 ∧ t σ H1 fun xs H2 => r x xs H2 Q) : tBM K T r to t σ H Q := h
theorem z_bm0 {T : String} {r : V → List V → Hp → VK → Prop} {to : TE} (h : to σ H fun x H1 => tyV K T x H1 ∧ r x [] H1 Q) : tBM0 K T r to σ H Q := h
theorem z_tyL (hp : SqL K H p xs) (r : R) : tyV K "list" (.ref p) H ∧ R := ⟨.inl ⟨rfl, _, hp⟩, r⟩
theorem z_app (hp : H p = some (.lst xs)) (hz : xs.length < sizeLine) (h : Q .non (upd H p (.lst (xs ++ [y])))) : rAppend (.ref p) [y] H Q := ⟨p, xs, y, rfl, rfl, hp, hz, h⟩
theorem cut_to (xs : List V) {i : Int} (h : 0 ≤ i) : cutV xs none (some i) = xs.take i.toNat := by
  unfold cutV
  have e1 : HT.sIx xs.length 0 none = 0 := rfl
  have e2 : HT.sIx xs.length xs.length (some i) = min i.toNat xs.length := if_neg (by omega)
  rw [e1, e2, List.drop_zero, Nat.sub_zero]
  by_cases l : i.toNat ≤ xs.length
  · rw [Nat.min_eq_left l]
  · rw [Nat.min_eq_right (by omega), List.take_of_length_le (Nat.le_refl _), List.take_of_length_le (by omega)]
theorem cut_from (xs : List V) {i : Int} (h : 0 ≤ i) : cutV xs (some i) none = xs.drop i.toNat := by
  unfold cutV
  have e1 : HT.sIx xs.length xs.length none = xs.length := rfl
  have e2 : HT.sIx xs.length 0 (some i) = min i.toNat xs.length := if_neg (by omega)
  rw [e1, e2]
  by_cases l : i.toNat ≤ xs.length
  · rw [Nat.min_eq_left l, List.take_of_length_le (by rw [List.length_drop]; exact Nat.le_refl _)]
  · rw [Nat.min_eq_right (by omega), Nat.sub_self, List.take_zero, List.drop_eq_nil_of_le (by omega)]
theorem cut_part (xs : List V) {i j : Int} (h : 0 ≤ i) (h' : 0 ≤ j) : cutV xs (some i) (some j) = (xs.drop i.toNat).take (j.toNat - i.toNat) := by
  unfold cutV
  have e1 : HT.sIx xs.length xs.length (some j) = min j.toNat xs.length := if_neg (by omega)
  have e2 : HT.sIx xs.length 0 (some i) = min i.toNat xs.length := if_neg (by omega)
  rw [e1, e2]
  by_cases l : i.toNat ≤ xs.length
  · rw [Nat.min_eq_left l]
    by_cases l2 : j.toNat ≤ xs.length
    · rw [Nat.min_eq_left l2]
    · rw [Nat.min_eq_right (by omega), List.take_of_length_le (by rw [List.length_drop]; exact Nat.le_refl _), List.take_of_length_le (by rw [List.length_drop]; omega)]
  · rw [Nat.min_eq_right (a := i.toNat) (by omega), List.drop_eq_nil_of_le (Nat.le_refl _), List.drop_eq_nil_of_le (by omega), List.take_nil, List.take_nil]
theorem z_slTo {i : Int} (h0 : 0 ≤ i) (hp : SqL K H a xs) (h : ∀ p, H p = none → Q (.ref p) (upd H p (.lst (xs.take i.toNat)))) : rSlZ K (.ref a) none (some i) H Q := z_slL hp fun p hp => by rw [cut_to _ h0]; exact h p hp
theorem z_slFrom {i : Int} (h0 : 0 ≤ i) (hp : SqL K H a xs) (h : ∀ p, H p = none → Q (.ref p) (upd H p (.lst (xs.drop i.toNat)))) : rSlZ K (.ref a) (some i) none H Q := z_slL hp fun p hp => by rw [cut_from _ h0]; exact h p hp
theorem z_slPart {i j : Int} (h0 : 0 ≤ i) (h1 : 0 ≤ j) (hp : SqL K H a xs) (h : ∀ p, H p = none → Q (.ref p) (upd H p (.lst ((xs.drop i.toNat).take (j.toNat - i.toNat))))) : rSlZ K (.ref a) (some i) (some j) H Q := z_slL hp fun p hp => by rw [cut_part _ h0 h1]; exact h p hp
end

section
variable {K : PySem.W.Frag} {σ σ' : St} {H : Hp} {Q : VK} {a : Addr} {ns : List Int} {t u : TS} {D : Ends} {i : Nat} {x : Option V}
theorem z_slToI {i : Int} (h0 : 0 ≤ i) (hp : SqL K H a (ns.map V.int)) (h : ∀ p, H p = none → Q (.ref p) (upd H p (.lst ((ns.take i.toNat).map V.int)))) : rSlZ K (.ref a) none (some i) H Q := z_slTo h0 hp fun p hp => by rw [← List.map_take]; exact h p hp
theorem z_slFromI {i : Int} (h0 : 0 ≤ i) (hp : SqL K H a (ns.map V.int)) (h : ∀ p, H p = none → Q (.ref p) (upd H p (.lst ((ns.drop i.toNat).map V.int)))) : rSlZ K (.ref a) (some i) none H Q := z_slFrom h0 hp fun p hp => by rw [← List.map_drop]; exact h p hp
theorem z_slPartI {i j : Int} (h0 : 0 ≤ i) (h1 : 0 ≤ j) (hp : SqL K H a (ns.map V.int)) (h : ∀ p, H p = none → Q (.ref p) (upd H p (.lst (((ns.drop i.toNat).take (j.toNat - i.toNat)).map V.int)))) : rSlZ K (.ref a) (some i) (some j) H Q := z_slPart h0 h1 hp fun p hp => by rw [← List.map_drop, ← List.map_take]; exact h p hp
theorem z_catI {a c : Addr} {ns ms : List Int} (ha : SqL K H a (ns.map V.int)) (hc : SqL K H c (ms.map V.int)) (z : ns.length + ms.length ≤ sizeLine) (h : ∀ p, H p = none → Q (.ref p) (upd H p (.lst ((ns ++ ms).map V.int)))) : rAddZ K (.ref a) (.ref c) H Q :=
  z_cat ha hc (by rw [List.length_map, List.length_map]; exact z) fun p hp => by rw [← List.map_append]; exact h p hp
theorem z_seqS (e : σ.set i x = σ') (h : tSeq t u D σ' H) : tSeq t u D (σ.set i x) H := by rw [e]; exact h
theorem z_eqLN {a b : Addr} {xs ys : List V} {ns ms : List Int} (e1 : xs = ns.map V.int) (e2 : ys = ms.map V.int) (ha : SqL K H a xs) (hb : SqL K H b ys) (h : Q (.bl (decide (ns = ms))) H) : rEqZ K (.ref a) (.ref b) H Q := by subst e1 e2; exact z_eqL ha hb h
theorem z_neLN {a b : Addr} {xs ys : List V} {ns ms : List Int} (e1 : xs = ns.map V.int) (e2 : ys = ms.map V.int) (ha : SqL K H a xs) (hb : SqL K H b ys) (h : Q (.bl (!decide (ns = ms))) H) : rNeZ K (.ref a) (.ref b) H Q := by subst e1 e2; exact z_neL ha hb h
end

section
variable {K : PySem.W.Frag} {H : Hp} {Q : VK} {n : Nat}
theorem shl_pos : (0 : Int) < 1 * 2 ^ n := by rw [Int.one_mul]; exact Int.pow_pos (by decide)
def rMin2 : List V → Hp → VK → Prop := fun xs H Q => ∃ i j, xs = [.int i, .int j] ∧ Q (.int (if j < i then j else i)) H
def rMax2 : List V → Hp → VK → Prop := fun xs H Q => ∃ i j, xs = [.int i, .int j] ∧ Q (.int (if j > i then j else i)) H
theorem call_min2Z {X : Cx} (hc : X.calm = true) : CallR X (.builtin "min") rMin2 := call_min2 hc
theorem call_max2Z {X : Cx} (hc : X.calm = true) : CallR X (.builtin "max") rMax2 := call_max2 hc
theorem z_min2 {i j : Int} (h : Q (.int (min i j)) H) : rMin2 [.int i, .int j] H Q := ⟨i, j, rfl, by
  have e : (if j < i then j else i) = min i j := by
    by_cases l : j < i
    · rw [if_pos l]; omega
    · rw [if_neg l]; omega
  rw [e]; exact h⟩
theorem z_max2 {i j : Int} (h : Q (.int (max i j)) H) : rMax2 [.int i, .int j] H Q := ⟨i, j, rfl, by
  have e : (if j > i then j else i) = max i j := by
    by_cases l : j > i
    · rw [if_pos l]; omega
    · rw [if_neg l]; omega
  rw [e]; exact h⟩
end

section
variable {K : PySem.W.Frag} {H : Hp} {Q : VK} {a b : Bool}
theorem z_eqB (h : Q (.bl (decide (a = b))) H) : rEqZ K (.bl a) (.bl b) H Q := .inl ⟨rfl, by
  have e : decide (V.bl a = V.bl b) = decide (a = b) := by simp
  rw [e]; exact h⟩
theorem z_neB (h : Q (.bl (!decide (a = b))) H) : rNeZ K (.bl a) (.bl b) H Q := .inl ⟨rfl, by
  have e : decide (V.bl a = V.bl b) = decide (a = b) := by simp
  rw [e]; exact h⟩
end

/-! ## Objects of one's own classes -/
def rFld (K : PySem.W.Frag) (f : Str) (x : V) (H : Hp) (Q : VK) : Prop := ∃ a C dx fs v, x = .ref a ∧ H a = some (.ins C dx fs) ∧ Cls K C ∧ NoAttr K C f ∧ fs.lookup f = some v ∧ Q v H
def wFld (K : PySem.W.Frag) (f : Str) (x y : V) (H : Hp) (R : Hp → Prop) : Prop := ∃ a C dx fs, x = .ref a ∧ H a = some (.ins C dx fs) ∧ Cls K C ∧ NoAttr K C f ∧ fs.length < 1000 ∧ R (upd H a (.ins C dx (putF f y fs)))
def aFld (a C : Addr) (f : Str) (z : V) (H : Hp) (R : Hp → Prop) : Prop := ∃ dx fs, H a = some (.ins C dx fs) ∧ fs.length < 1000 ∧ R (upd H a (.ins C dx (putF f z fs)))
def bFld (K : PySem.W.Frag) (f : Str) (x : V) (H : Hp) (R : Addr → Addr → V → Hp → Prop) : Prop := ∃ a C dx fs v, x = .ref a ∧ H a = some (.ins C dx fs) ∧ Cls K C ∧ NoAttr K C f ∧ fs.lookup f = some v ∧ R a C v H
section
variable {K : PySem.W.Frag} {σ : St} {H : Hp} {nx bk ct : St → Hp → Prop} {rt : VK} {ta tv : TE} {Q : VK} {f : Str}
theorem z_fld (h : ta σ H fun x H1 => rFld K f x H1 Q) : tFld K ta f σ H Q := h
theorem z_sfld (h : tv σ H fun y H1 => ta σ H1 fun x H2 => wFld K f x y H2 fun H3 => nx σ H3) : sFld K ta tv f ⟨nx, rt, bk, ct⟩ σ H := h
theorem z_sfldA {rd : V → V → Hp → VK → Prop} (h : ta σ H fun x H1 => bFld K f x H1 fun a C v H1 => tv σ H1 fun y H2 => rd v y H2 fun z H3 => aFld a C f z H3 fun H4 => nx σ H4) : sFldAug K ta tv rd f ⟨nx, rt, bk, ct⟩ σ H := h
theorem z_rAdd {i j : Int} (h : Q (.int (i + j)) H) : rAdd (.int i) (.int j) H Q := ⟨i, j, rfl, rfl, h⟩
theorem z_rSub {i j : Int} (h : Q (.int (i - j)) H) : rSub (.int i) (.int j) H Q := ⟨i, j, rfl, rfl, h⟩
theorem lkf_hd {k : Str} {v : V} {r : List (Str × V)} : List.lookup k ((k, v) :: r) = some v := by simp [List.lookup]
theorem lkf_tl {k g : Str} {v : V} {r : List (Str × V)} {o : Option V} (h : (k == g) = false) (e : List.lookup k r = o) : List.lookup k ((g, v) :: r) = o := by simp only [List.lookup, h]; exact e
theorem lkf_nil {k : Str} : List.lookup k ([] : List (Str × V)) = none := rfl
theorem ptf_hd {k : Str} {v u : V} {r : List (Str × V)} : putF k v ((k, u) :: r) = (k, v) :: r := if_pos rfl
theorem ptf_tl {k g : Str} {v u : V} {r r' : List (Str × V)} (h : ¬ g = k) (e : putF k v r = r') : putF k v ((g, u) :: r) = (g, u) :: r' := by rw [← e]; exact if_neg h
theorem ptf_nil {k : Str} {v : V} : putF k v [] = [(k, v)] := rfl
/-- methods -/
def rMeth (C : Addr) (m : Str) (R : V → Hp → Prop) (x : V) (H : Hp) : Prop := ∃ a dx fs, x = .ref a ∧ H a = some (.ins C dx fs) ∧ fs.lookup m = none ∧ R x H
def tMethZ (C : Addr) (m : Str) (sp : Sp) (dvs : List V) (E : XK) (ta : TE) (t : TA) : TE := fun σ H Q => ta σ H fun x H1 => rMeth C m (fun x H1 => t σ H1 fun vs H2 => sp (x :: (vs ++ dvs)) H2 Q E) x H1
theorem z_meth {C : Addr} {m : Str} {sp : Sp} {E : XK} {t : TA} (h : ta σ H fun x H1 => rMeth C m (fun x H1 => t σ H1 fun vs H2 => sp (x :: (vs ++ [])) H2 Q E) x H1) : tMeth C m sp [] E ta t σ H Q := h
theorem z_methR {C a dx : Addr} {m : Str} {fs : List (Str × V)} {R : V → Hp → Prop} (ho : H a = some (.ins C dx fs)) (hl : fs.lookup m = none) (h : R (.ref a) H) : rMeth C m R (.ref a) H := ⟨a, dx, fs, rfl, ho, hl, h⟩
def rMake (C : Addr) (sp : Sp) (E : XK) (dvs : List V) (Q : VK) (vs : List V) (H1 : Hp) : Prop := ∀ x dx, H1 x = none → H1 dx = none → dx ≠ x →
  sp (.ref x :: (vs ++ dvs)) (upd (upd H1 dx (.own x)) x (.ins C dx [])) (fun v H2 => v = .non ∧ Q (.ref x) H2) E
theorem z_make {C : Addr} {sp : Sp} {E : XK} {t : TA} {dvs : List V} (h : t σ H fun vs H1 => rMake C sp E dvs Q vs H1) : tMake C sp dvs E t σ H Q := h
end
section
variable {X : Cx} {CX : CXT} {k : Nat} {f C : Addr} {fd : FuncData} {ps : List Str} {sp : Sp} {E : XK} {x m : Str} {p pos apos : Pos} {e o : Expr} {es : List Expr} {ta : TE} {t : TA}
theorem pe_methZ {pl : Sem Bool} (he : PE X o ta) (c : Cls X.K C) (hm : Meth X.K C m f) (F : FnOk X.prog X.w X.K X.mg X.base CX k f fd ps sp) (hr : Room k X.A) (hb : Binds X.K fd ps []) (hx : Passes CX X E) (ha : PA X (e :: es) t)
    (hst : starEach (e :: es) X.env = (false, eval e X.env) :: starEach es X.env := by rfl) (hpl : (backTo pos (starEach es X.env)).any (·.1) = false := by rfl)
    (ht : eval (.Call (.Attribute o m apos) (e :: es) [] pos) X.env = (do
      let ov ← eval o X.env
      standAt apos.atName
      let (f, first) ← holding [ov] (getMethod ov m pl)
      callWith pos f first (backTo pos (starEach (e :: es) X.env)) (backToKw pos (keywordEach [] X.env))) := by rfl) :
    PE X (.Call (.Attribute o m apos) (e :: es) [] pos) (tMeth C m sp [] E ta t) := pe_meth (pl := pl) he c hm F hr hb .nil hx ha hst hpl ht
theorem pe_meth0Z {pl : Sem Bool} (he : PE X o ta) (c : Cls X.K C) (hm : Meth X.K C m f) (F : FnOk X.prog X.w X.K X.mg X.base CX k f fd ps sp) (hr : Room k X.A) (hb : Binds X.K fd ps []) (hx : Passes CX X E)
    (ht : eval (.Call (.Attribute o m apos) [] [] pos) X.env = (do
      let ov ← eval o X.env
      standAt apos.atName
      let (f, first) ← holding [ov] (getMethod ov m pl)
      callWith pos f first (backTo pos (starEach [] X.env)) (backToKw pos (keywordEach [] X.env))) := by rfl) :
    PE X (.Call (.Attribute o m apos) [] [] pos) (tMeth C m sp [] E ta tNil) := pe_meth0 (pl := pl) he c hm F hr hb .nil hx ht
theorem ps_fldZ {K : PySem.W.Frag} {value : Expr} {f : Str} {pos' : Pos} {tv : TE} (hK : X.K = K) (ha : PE X o ta) (hv : PE X value tv) (hs : swapsWith value (some (.Attribute o f pos')) pos.line X.env = pure false) : PS X (.Assign [.Attribute o f pos'] value pos) (sFld K ta tv f) := by subst hK; exact ps_fld ha hv hs
theorem ps_fldaugZ {K : PySem.W.Frag} {value : Expr} {f : Str} {tpos : Pos} {tv : TE} {op : Operator} {rd : V → V → Hp → VK → Prop} (hK : X.K = K) (ha : PE X o ta) (hv : PE X value tv) (hop : InOp X op rd) : PS X (.AugAssign (.Attribute o f tpos) op value pos) (sFldAug K ta tv rd f) := by subst hK; exact ps_fldaug ha hv hop
end
/-! ## Plain loops, a range by steps -/
section
variable {K : PySem.W.Frag} {σ : St} {H H0 : Hp} {nx bk ct : St → Hp → Prop} {rt : VK} {tb : TS} {g : TG} {a : Addr} {xs : List V} {tr : TA} {te : TE}
theorem z_pforR1 (h : tr σ H fun vs H1 => ∃ n : Int, vs = [.int n] ∧ -(2 ^ 62) ≤ n ∧ n < 2 ^ 62 ∧ ForZ (Itr 0 n.toNat) g tb ⟨nx, rt, bk, ct⟩ σ H1) : tFor (iRng1 tr) g tb ⟨nx, rt, bk, ct⟩ σ H := h
theorem z_pforR3 (h : tr σ H fun vs H1 => ∃ (i j c : Int) (n : Nat), vs = [.int i, .int j, .int c] ∧ RgC i j c n ∧ ForZ (Itc i c n) g tb ⟨nx, rt, bk, ct⟩ σ H1) : tFor (iRng3 tr) g tb ⟨nx, rt, bk, ct⟩ σ H := h
theorem z_forR3 (h : tr σ H fun vs H1 => ∃ (i j c : Int) (n : Nat), vs = [.int i, .int j, .int c] ∧ RgC i j c n ∧ ForZ (Itc i c n) g (sGcE H tb) ⟨nx, rt, bk, ct⟩ σ H1) : tForZ (iRng3 tr) g tb ⟨nx, rt, bk, ct⟩ σ H := h
theorem z_pforL (h : te σ H fun x H1 => ∃ a, x = .ref a ∧ (∃ xs, SqL K H1 a xs) ∧ ForZ (Itl K a) g tb ⟨nx, rt, bk, ct⟩ σ H1) : tFor (iList K te) g tb ⟨nx, rt, bk, ct⟩ σ H := h
theorem p_range {lo : Int} {n : Nat} (Pv : Nat → St → Hp → Prop) (h0 : Pv 0 σ H)
    (hs : ∀ i σ H, i < n → Pv i σ H → g (.int (lo + i)) σ H fun σ2 H2 => tb ⟨Pv (i + 1), rt, nx, Pv (i + 1)⟩ σ2 H2) (hd : ∀ σ H, Pv n σ H → nx σ H) : ForZ (Itr lo n) g tb ⟨nx, rt, bk, ct⟩ σ H := for_range (D := ⟨nx, rt, bk, ct⟩) (tb := tb) Pv h0 hs hd
theorem p_rangeC {lo c : Int} {n : Nat} (Pv : Nat → St → Hp → Prop) (h0 : Pv 0 σ H)
    (hs : ∀ i σ H, i < n → Pv i σ H → g (.int (lo + (i : Nat) * c)) σ H fun σ2 H2 => tb ⟨Pv (i + 1), rt, nx, Pv (i + 1)⟩ σ2 H2) (hd : ∀ σ H, Pv n σ H → nx σ H) : ForZ (Itc lo c n) g tb ⟨nx, rt, bk, ct⟩ σ H := for_rangeC (D := ⟨nx, rt, bk, ct⟩) (tb := tb) Pv h0 hs hd
theorem f_rangeC {lo c : Int} {n : Nat} (Pv : Nat → St → Hp → Prop) (h0 : Pv 0 σ H)
    (hs : ∀ i σ H, i < n → Pv i σ H → g (.int (lo + (i : Nat) * c)) σ H fun σ2 H2 => tb ⟨fun σ' H' => ∃ G, Gc H0 H' G ∧ Pv (i + 1) σ' G, fun v H' => ∃ G, Gc H0 H' G ∧ rt v G, fun σ' H' => ∃ G, Gc H0 H' G ∧ nx σ' G, fun σ' H' => ∃ G, Gc H0 H' G ∧ Pv (i + 1) σ' G⟩ σ2 H2) (hd : ∀ σ H, Pv n σ H → nx σ H) : ForZ (Itc lo c n) g (sGcE H0 tb) ⟨nx, rt, bk, ct⟩ σ H := for_rangeC (D := ⟨nx, rt, bk, ct⟩) (tb := sGcE H0 tb) Pv h0 hs hd
theorem z_rn3d {R : Int → Int → Int → Nat → Prop} {m n : Int} (h0 : -(2 ^ 62) ≤ m) (h1 : m < 2 ^ 62) (h2 : -(2 ^ 62) ≤ n) (h3 : n < 2 ^ 62) (h : R m n (-1) (m - n).toNat) : ∃ (i j c : Int) (k : Nat), [V.int m, V.int n, V.int (-1)] = [V.int i, V.int j, V.int c] ∧ RgC i j c k ∧ R i j c k :=
  ⟨m, n, -1, _, rfl, RgC.neg h0 h1 h2 h3, h⟩
theorem p_list (Pv : Nat → St → Hp → Prop) (h0 : Pv 0 σ H) (hl : ∀ i σ H, i ≤ xs.length → Pv i σ H → SqL K H a xs)
    (hs : ∀ i x σ H, xs[i]? = some x → Pv i σ H → g x σ H fun σ2 H2 => tb ⟨Pv (i + 1), rt, nx, Pv (i + 1)⟩ σ2 H2) (hd : ∀ σ H, Pv xs.length σ H → nx σ H) : ForZ (Itl K a) g tb ⟨nx, rt, bk, ct⟩ σ H := for_list (D := ⟨nx, rt, bk, ct⟩) (tb := tb) Pv h0 hl hs hd
end
/-! ## Dicts with written keys -/
def rDGet (x y : V) (H : Hp) (Q : VK) : Prop := ∃ a v, x = .ref a ∧ DGet H a y (some v) ∧ Q v H
def rDPut (x y v : V) (H : Hp) (R : Hp → Prop) : Prop := ∃ a H4, x = .ref a ∧ DPut H a y v H4 ∧ R H4
section
variable {σ : St} {H : Hp} {nx bk ct : St → Hp → Prop} {rt : VK} {td ty tv : TE} {Q : VK} {a : Addr} {kvs : List (Key × V)} {v : V} {s : Str} {R : Hp → Prop}
theorem z_dget (h : td σ H fun x H1 => ty σ H1 fun y H2 => rDGet x y H2 Q) : tDGet td ty σ H Q := h
theorem z_dput (h : tv σ H fun v H1 => td σ H1 fun x H2 => ty σ H2 fun y H3 => rDPut x y v H3 fun H4 => nx σ H4) : sDPut td ty tv ⟨nx, rt, bk, ct⟩ σ H := h
theorem z_dgetS (ha : H a = some (.dK kvs)) (e : valV kvs (Sum.inr s) = some v) (h : Q v H) : rDGet (.ref a) (.str s) H Q := ⟨a, v, rfl, e ▸ DGet.k (k := Sum.inr s) ha, h⟩
theorem z_dgetI {i : Int} (ha : H a = some (.dK kvs)) (e : valV kvs (Sum.inl i) = some v) (h : Q v H) : rDGet (.ref a) (.int i) H Q := ⟨a, v, rfl, e ▸ DGet.k (k := Sum.inl i) ha, h⟩
theorem z_dputS (ha : H a = some (.dK kvs)) (hz : kvs.length < sizeLine) (h : R (upd H a (.dK (putK kvs (Sum.inr s) v)))) : rDPut (.ref a) (.str s) v H R := ⟨a, _, rfl, DPut.k (k := Sum.inr s) ha hz, h⟩
theorem z_dputI {i : Int} (ha : H a = some (.dK kvs)) (hz : kvs.length < sizeLine) (h : R (upd H a (.dK (putK kvs (Sum.inl i) v)))) : rDPut (.ref a) (.int i) v H R := ⟨a, _, rfl, DPut.k (k := Sum.inl i) ha hz, h⟩
end
section
variable {X : Cx} {K : PySem.W.Frag} {H : Hp} {Q : VK}
/-- is, is not: with None, of two truth values -/
theorem op_isB : OpR X (compareOp .Is) (fun x y H Q => ∃ b c, x = .bl b ∧ y = .bl c ∧ Q (.bl (b == c)) H) := by
  intro pins s σ H x y v u Q I rx ry h
  obtain ⟨b, c, rfl, rfl, q⟩ := h
  cases rx
  cases ry
  cases b <;> cases c <;> exact PySem.wpAny_pure (fin_bl I q rfl)
theorem op_isnB : OpR X (compareOp .IsNot) (fun x y H Q => ∃ b c, x = .bl b ∧ y = .bl c ∧ Q (.bl (!(b == c))) H) := by
  intro pins s σ H x y v u Q I rx ry h
  obtain ⟨b, c, rfl, rfl, q⟩ := h
  cases rx
  cases ry
  cases b <;> cases c <;> exact PySem.wpAny_pure (fin_bl I q rfl)
def rIsZ : R2 := fun x y H Q => (y = .non ∧ Q (.bl (decide (x = .non))) H) ∨ ∃ b c, x = .bl b ∧ y = .bl c ∧ Q (.bl (b == c)) H
def rIsnZ : R2 := fun x y H Q => (y = .non ∧ Q (.bl (!decide (x = .non))) H) ∨ ∃ b c, x = .bl b ∧ y = .bl c ∧ Q (.bl (!(b == c))) H
theorem op_isZ : OpR X (compareOp .Is) rIsZ := op_isN.or op_isB
theorem op_isnZ : OpR X (compareOp .IsNot) rIsnZ := op_notN.or op_isnB
theorem z_isTT (h : Q (.bl true) H) : rIsZ (.bl true) (.bl true) H Q := .inr ⟨true, true, rfl, rfl, h⟩
theorem z_isTB {b : Bool} (h : Q (.bl b) H) : rIsZ (.bl b) (.bl true) H Q := .inr ⟨b, true, rfl, rfl, by cases b <;> exact h⟩
theorem z_isnTB {b : Bool} (h : Q (.bl (!b)) H) : rIsnZ (.bl b) (.bl true) H Q := .inr ⟨b, true, rfl, rfl, by cases b <;> exact h⟩
theorem z_isN (h : Q (.bl true) H) : rIsZ .non .non H Q := .inl ⟨rfl, h⟩
theorem z_isnN (h : Q (.bl false) H) : rIsnZ .non .non H Q := .inl ⟨rfl, h⟩
theorem z_isNr {a : Addr} (h : Q (.bl false) H) : rIsZ (.ref a) .non H Q := .inl ⟨rfl, h⟩
theorem z_isnNr {a : Addr} (h : Q (.bl true) H) : rIsnZ (.ref a) .non H Q := .inl ⟨rfl, h⟩
theorem z_isNi {i : Int} (h : Q (.bl false) H) : rIsZ (.int i) .non H Q := .inl ⟨rfl, h⟩
theorem z_isnNi {i : Int} (h : Q (.bl true) H) : rIsnZ (.int i) .non H Q := .inl ⟨rfl, h⟩
end

section
variable {K : PySem.W.Frag} {σ : St} {H : Hp} {Q : St → Hp → Prop} {QV : VK} {a : Addr} {xs : List V} {v : V} {n : Nat} {t : TG} {u : TGs}
theorem z_gtup (ha : SqT K H a xs) (hl : xs.length = n) (h : u xs σ H Q) : gTup K n u (.ref a) σ H Q := ⟨a, xs, rfl, ha, hl, h⟩
theorem z_gcons {r : List V} (h : t v σ H fun σ' H' => u r σ' H' Q) : gCons t u (v :: r) σ H Q := ⟨v, r, rfl, h⟩
theorem z_gnil (h : Q σ H) : gNil [] σ H Q := ⟨rfl, h⟩
theorem st_new {p : Addr} {o : HO} (hp : H p = none) (h : SqT K H a xs) : SqT K (upd H p o) a xs := by
  rcases h with (h | ⟨ob, h⟩) | h
  · exact .inl (.inl (by rw [upd_ne (ne_of_none h hp)]; exact h))
  · exact .inl (.inr ⟨ob, by rw [upd_ne (ne_of_none h hp)]; exact h⟩)
  · exact .inr h
theorem z_allT {α : Type} {ys : List α} (ha : SqL K H a (ys.map fun _ => V.bl true)) (h : QV (.bl true) H) : rAll K [.ref a] H QV := by
  refine ⟨a, ys.map fun _ => true, rfl, by rw [List.map_map]; exact ha, ?_⟩
  have e : (ys.map fun _ => true).all id = true := by simp
  rw [e]; exact h
theorem z_all {bs : List Bool} (ha : SqL K H a (bs.map V.bl)) (h : QV (.bl (bs.all id)) H) : rAll K [.ref a] H QV := ⟨a, bs, rfl, ha, h⟩
theorem z_any {bs : List Bool} (ha : SqL K H a (bs.map V.bl)) (h : QV (.bl (bs.any id)) H) : rAny K [.ref a] H QV := ⟨a, bs, rfl, ha, h⟩
end

section
variable {H : Hp} {a b : Addr} {o o' u : HO}
theorem upd_self (h : H a = some o) : upd H a o = H := by
  funext b
  unfold upd
  by_cases e : b = a
  · subst e; simp [h]
  · simp [e]
theorem upd_swap (h : a ≠ b) : upd (upd (upd H a o) b u) a o' = upd (upd H a o') b u := by
  rw [upd_comm h, upd_upd, upd_comm h.symm]
theorem get_ne (h : b ≠ a) (e : H b = some u) : upd H a o b = some u := by rw [upd_ne h]; exact e
end

theorem cshl {N M j : Nat} (h : N < 2 ^ M) (hz : M + j ≤ 100000000) : CShl (N : Int) (j : Int) := ⟨by omega, by
  have := PyProof.Rows.intBits_le (a := (N : Int)) (k := M) (by rw [Int.natAbs_natCast]; exact h)
  omega⟩

theorem gc_tup {H H0 H1 : Hp} {p : Addr} {xs : List V} (b : Bs H H0) (s : Sx H H1) (hp : H1 p = none) : Gc H0 (upd H1 p (.tup xs)) (upd H p (.tup xs)) where
  sub := fun a o e => by
    by_cases q : a = p
    · subst q; rw [upd_same] at e ⊢; exact e
    · rw [upd_ne q] at e ⊢; exact s.same a o e
  ok := fun a o e => by
    by_cases q : a = p
    · subst q; rw [upd_same] at e; cases e; exact .inl trivial
    · rw [upd_ne q] at e
      refine .inr ⟨b.same a o e, fun c hc => ?_⟩
      have h1 := b.back c _ hc rfl
      rw [upd_ne (ne_of_none h1 (s.same.free hp))]
      exact h1
  keep := fun c u e k => by
    have h1 := b.back c u e (kept_loose k)
    rw [upd_ne (ne_of_none h1 (s.same.free hp))]
    exact h1
  dt := .inr fun c ys e => by
    by_cases q : c = p
    · subst q; rw [upd_same] at e ⊢; exact e
    · rw [upd_ne q] at e ⊢; exact s.nt c ys e
theorem and255 (X t : Nat) : Builtin.bitAnd ((X : Int) / 2 ^ t) 255 = ((X / 2 ^ t % 256 : Nat) : Int) := by
  have e1 : ((X : Int) / 2 ^ t) = ((X / 2 ^ t : Nat) : Int) := by
    rw [Int.natCast_ediv]
    first | done | (congr 1; exact PyProof.Rows.two_pow_cast _) | simp
  have e2 : Builtin.bitAnd ((X / 2 ^ t : Nat) : Int) 255 = ((X / 2 ^ t &&& 255 : Nat) : Int) := and_nat _ 255
  have e3 := Nat.and_two_pow_sub_one_eq_mod (X / 2 ^ t) 8
  rw [show (2 ^ 8 - 1 : Nat) = 255 from rfl] at e3
  rw [e1, e2, e3]
theorem shl_nat (N j : Nat) : (N : Int) * 2 ^ ((j : Int)).toNat = ((N * 2 ^ j : Nat) : Int) := by rw [Int.toNat_natCast, PyProof.Rows.two_pow_cast, Int.natCast_mul]

theorem z_setV {H : Hp} {a : Addr} {xs : List V} {i : Int} {v : V} {R : Hp → Prop} (ha : H a = some (.lst xs)) (h0 : 0 ≤ i) (h1 : i < xs.length) (h : R (upd H a (.lst (xs.set i.toNat v)))) : rSetL (.ref a) (.int i) v H R :=
  ⟨a, _, i, i.toNat, rfl, rfl, ha, by unfold ixN; rw [if_pos h0, if_pos h1], h⟩

section
variable {σ : St} {H : Hp} {Q : VK} {tk tv : TE} {r : List (TE × TE)} {QP : List (V × V) → Hp → Prop}
theorem z_disp {trs : List (TE × TE)} (h : ∀ p, H p = none → tPairs trs σ (upd H p (.dK [])) fun ps H2 => H2 p = some (.dK []) ∧ ∃ kvs : List (Key × V), ps = kvs.map (fun kv => (kV kv.1, kv.2)) ∧ kvs.length ≤ 15 ∧ Q (.ref p) (upd H2 p (.dK (mergeK [] kvs)))) : tDisp trs σ H Q := h
theorem z_pcons (h : tk σ H fun x H1 => tv σ H1 fun y H2 => tPairs r σ H2 fun ps H3 => QP ((x, y) :: ps) H3) : tPairs ((tk, tv) :: r) σ H QP := h
theorem z_pnil (h : QP [] H) : tPairs [] σ H QP := h
end

theorem p_ints {K : PySem.W.Frag} {σ : St} {H : Hp} {nx bk ct : St → Hp → Prop} {rt : VK} {tb : TS} {g : TG} {a : Addr} {ns : List Int} (Pv : Nat → St → Hp → Prop) (h0 : Pv 0 σ H) (hl : ∀ i σ H, i ≤ ns.length → Pv i σ H → SqL K H a (ns.map V.int))
    (hs : ∀ (i : Nat) (n : Int) σ H, ns[i]? = some n → Pv i σ H → g (.int n) σ H fun σ2 H2 => tb ⟨Pv (i + 1), rt, nx, Pv (i + 1)⟩ σ2 H2) (hd : ∀ σ H, Pv ns.length σ H → nx σ H) : ForZ (Itl K a) g tb ⟨nx, rt, bk, ct⟩ σ H :=
  p_list (xs := ns.map V.int) Pv h0 (fun i σ H hi => hl i σ H (by rw [List.length_map] at hi; exact hi)) (fun i x σ H hx p => by
    rw [List.getElem?_map] at hx
    cases e : ns[i]? with
    | none => rw [e] at hx; cases hx
    | some n => rw [e] at hx; cases hx; exact hs i n σ H e p) (fun σ H p => hd σ H (by rw [List.length_map] at p; exact p))

/-! ## defs with defaults -/
section
variable {P : Program} {w : World} {K : PySem.W.Frag} {mg : Str → Option Value} {base : Heap}
theorem fd_ok {x qual : Str} {st : Stmt} {f : Addr} {fd : FuncData} {N ps : List Str} {k : Nat} {sp : Sp} {dvs : List V} (F : FunD K x qual (defArgs st) (defBody st) (defScope st) dvs [] f fd) (S : FnScope N ps (defScope st)) (len : ∀ vs H Q E, sp vs H Q E → vs.length = ps.length)
    (hbody : ∀ (cdv : Value) (A : Around) (outer : List Env) (s : Shared) (H : Hp) (vs : List V) (Q : VK) (E : XK), Room k (A.deeper (PyProof.Rows.envOfC qual (defScope st) s.heap.objs.size f cdv)) → sp vs H Q E →
      ∃ t, PSs (cxOf CX0 P w K mg base N qual (defScope st) f cdv A outer s H E).nox (defBody st) t ∧ t { nx := fun _ H' => Q .non H', rt := Q } (start N vs) H) : FnOk P w K mg base CX0 (k + 1) f fd ps sp := by
  obtain ⟨oc, od, dV, kV, doc, pm, an, cdv, ct, osl, rfl, lk, hcd, _, _⟩ := F.ex
  refine fn_of lk hcd S len fun A outer s H vs Q E hr hsp => ?_
  obtain ⟨t, h, q⟩ := hbody cdv A outer s H vs Q E hr hsp
  exact ⟨t, h.nox, q⟩
theorem fd_mk {x qual : Str} {st : Stmt} {f T : Addr} {oc : Value} {od an : Option Addr} {osl : Array (Option Value)} {kV doc pm cdv ct : Value} {o : Obj} {its : List Value} {n : Nat} {dvs : List V} (l : K.lookup f = some ⟨oc, od, .func (PySem.W.fnOf x qual (defArgs st) (defBody st) (defScope st) (.ref T) kV doc pm an cdv ct), osl⟩)
    (c : PySem.W.codeIn K cdv qual = true) (k : PySem.W.keepIn K (.ref f) = true) (lt : K.lookup T = some o) (ot : o.data = .seq its.toArray n) (r : Vals dvs its) (hd : dvs ≠ []) :
    FunD K x qual (defArgs st) (defBody st) (defScope st) dvs [] f (PySem.W.fnOf x qual (defArgs st) (defBody st) (defScope st) (.ref T) kV doc pm an cdv ct) :=
  ⟨⟨oc, od, _, kV, doc, pm, an, cdv, ct, osl, rfl, l, c, Or.inr ⟨hd, T, o, its, n, rfl, lt, ot, r⟩, Or.inl rfl⟩, k⟩
end
/-- C(.., k = v): as rMake -/
def rMakeN (C : Addr) (n m : Nat) (sp : Sp) (gV : List V → List V → List V) (E : XK) (Q : VK) (vs zs : List V) (H2 : Hp) : Prop := vs.length = n ∧ zs.length = m ∧
  ∀ x dx, H2 x = none → H2 dx = none → dx ≠ x → sp (gV (.ref x :: vs) zs) (upd (upd H2 dx (.own x)) x (.ins C dx [])) (fun v H3 => v = .non ∧ Q (.ref x) H3) E
theorem z_makeN {C : Addr} {n m : Nat} {sp : Sp} {gV : List V → List V → List V} {E : XK} {t tk : TA} {σ : St} {H : Hp} {Q : VK} (h : t σ H fun vs H1 => tk σ H1 fun zs H2 => rMakeN C n m sp gV E Q vs zs H2) : tMakeN C n m sp gV E t tk σ H Q := h
/-! ## membership, reversing -/
theorem op_inZ {X : Cx} {K : PySem.W.Frag} (hK : X.K = K) : OpR X (compareOp .In) (rIn K false) := by rw [← hK]; exact op_in_seq
theorem z_inB {K : PySem.W.Frag} {H : Hp} {Q : VK} {b : Bool} {p : Addr} {xs : List V} (hp : SqL K H p xs) (hf : xs.all flatV = true) (h : Q (.bl (inV (.bl b) xs)) H) : rIn K false (.bl b) (.ref p) H Q := ⟨p, xs, rfl, Or.inl hp, rfl, hf, h⟩
theorem z_inI {K : PySem.W.Frag} {H : Hp} {Q : VK} {i : Int} {p : Addr} {xs : List V} (hp : SqL K H p xs) (hf : xs.all flatV = true) (h : Q (.bl (inV (.int i) xs)) H) : rIn K false (.int i) (.ref p) H Q := ⟨p, xs, rfl, Or.inl hp, rfl, hf, h⟩
theorem z_rev {H : Hp} {Q : VK} {l : Addr} {xs : List V} (hl : H l = some (.lst xs)) (h : Q .non (upd H l (.lst xs.reverse))) : rReverse (.ref l) [] H Q := ⟨l, xs, rfl, rfl, hl, h⟩
/-! ## a statement whose ways meet again -/
def sJ (t : TS) : TS := t
theorem ps_J {X : Cx} {st : Stmt} {t : TS} (h : PS X st t) : PS X st (sJ t) := h
theorem z_J {t : TS} {nx bk ct : St → Hp → Prop} {rt : VK} {σ : St} {H : Hp} (R : St → Hp → Prop) (h1 : ∀ N : St → Hp → Prop, (∀ σ' H', R σ' H' → N σ' H') → t ⟨N, rt, bk, ct⟩ σ H) (h2 : ∀ σ' H', R σ' H' → nx σ' H') : sJ t ⟨nx, rt, bk, ct⟩ σ H := h1 nx h2
/-! ## calls that may raise, at the slots as they stand -/
section
variable {X : Cx} {CX : CXT} {k : Nat} {f C : Addr} {fd : FuncData} {ps : List Str} {sp : Sp} {E : St → XK} {x m : Str} {p pos apos : Pos} {e o : Expr} {es : List Expr} {ta : TE} {t : TA}
def tMethS (C : Addr) (m : Str) (sp : Sp) (E : St → XK) (ta : TE) (t : TA) : TE := fun σ H Q => ta σ H fun x H1 => rMeth C m (fun x H1 => t σ H1 fun vs H2 => sp (x :: (vs ++ [])) H2 Q (E σ)) x H1
theorem pe_methS {pl : Sem Bool} (he : PE X o ta) (c : Cls X.K C) (hm : Meth X.K C m f) (F : FnOk X.prog X.w X.K X.mg X.base CX k f fd ps sp) (hr : Room k X.A) (hb : Binds X.K fd ps []) (hx : ∀ σ, PassesAt CX X σ (E σ)) (ha : PA X (e :: es) t)
    (hst : starEach (e :: es) X.env = (false, eval e X.env) :: starEach es X.env := by rfl) (hpl : (backTo pos (starEach es X.env)).any (·.1) = false := by rfl)
    (ht : eval (.Call (.Attribute o m apos) (e :: es) [] pos) X.env = (do
      let ov ← eval o X.env
      standAt apos.atName
      let (f, first) ← holding [ov] (getMethod ov m pl)
      callWith pos f first (backTo pos (starEach (e :: es) X.env)) (backToKw pos (keywordEach [] X.env))) := by rfl) :
    PE X (.Call (.Attribute o m apos) (e :: es) [] pos) (tMethS C m sp E ta t) := by
  refine ⟨fun pins s σ H Q I h => ?_⟩
  refine PySem.W.methodCall_KW (pl := pl) (thn (he.run pins s σ H _ I h) fun u s1 ⟨x, H1, I1, rx, a, dx, fs, ex, ea, l, q⟩ => ?_) ht
  subst ex
  obtain rfl : u = Value.ref a := rx
  refine getmeth_ok I1 ea c hm l ?_
  refine PySem.W.callWith_K (first := [.ref a]) (h₀ := X.base) I.ok.mod.kin hm.kp (thn (ha.run pos pins s1 σ H1 _ I1 q) fun us s2 ⟨vs, H2, I2, r, q2⟩ => ⟨I2.kIn, ?_⟩) hst hpl
  have q3 : sp (V.ref a :: vs) H2 Q (E σ) := by have q4 : sp (V.ref a :: (vs ++ [])) H2 Q (E σ) := q2; rw [List.append_nil] at q4; exact q4
  exact run_fnS (us := .ref a :: us) (vs := .ref a :: vs) F hr hb (hx σ) I2 (.cons rfl r) q3
theorem pe_meth0S {pl : Sem Bool} (he : PE X o ta) (c : Cls X.K C) (hm : Meth X.K C m f) (F : FnOk X.prog X.w X.K X.mg X.base CX k f fd ps sp) (hr : Room k X.A) (hb : Binds X.K fd ps []) (hx : ∀ σ, PassesAt CX X σ (E σ))
    (ht : eval (.Call (.Attribute o m apos) [] [] pos) X.env = (do
      let ov ← eval o X.env
      standAt apos.atName
      let (f, first) ← holding [ov] (getMethod ov m pl)
      callWith pos f first (backTo pos (starEach [] X.env)) (backToKw pos (keywordEach [] X.env))) := by rfl) :
    PE X (.Call (.Attribute o m apos) [] [] pos) (tMethS C m sp E ta tNil) := by
  refine ⟨fun pins s σ H Q I h => ?_⟩
  refine PySem.W.methodCall_KW (pl := pl) (thn (he.run pins s σ H _ I h) fun u s1 ⟨x, H1, I1, rx, a, dx, fs, ex, ea, l, q⟩ => ?_) ht
  subst ex
  obtain rfl : u = Value.ref a := rx
  refine getmeth_ok I1 ea c hm l ?_
  exact PySem.W.callWith_K0 (first := [.ref a]) I1.kIn hm.kp (run_fnS (us := [.ref a]) (vs := [.ref a]) F hr hb (hx σ) I1 (.cons rfl .nil) q)
def tMakeS (C : Addr) (sp : Sp) (dvs : List V) (E : St → XK) (t : TA) : TE := fun σ H Q => t σ H fun vs H1 => rMake C sp (E σ) dvs Q vs H1
variable {dvs : List V} {ds : List Value}
theorem run_makeS {pins : List (Addr × Obj)} {σ : St} {H : Hp} {s : Shared} {Q : VK} {us : List Value} {vs : List V} (M : Mk X.K C f) (F : FnOk X.prog X.w X.K X.mg X.base CX k f fd ps sp) (hr : Room (k + 1) X.A) (hb : Binds X.K fd ps ds) (hd : Vals dvs ds)
    (hx : PassesAt CX X σ (E σ)) (I : Inv X pins σ H s) (r : Vals vs us) (h : rMake C sp (E σ) dvs Q vs H) :
    wpAny (model X.prog X.w) X.A (call (.ref C) us) (EP X pins σ Q) X.xe s := by
  have hq := h (s.heap.objs.size + 1) s.heap.objs.size (I.hok.fresh (Nat.le_succ _)) (I.hok.fresh (Nat.le_refl _)) (Nat.ne_of_lt (Nat.lt_succ_self _))
  have I2 := Inv.made (C := C) I
  have r2 : Vals (V.ref (s.heap.objs.size + 1) :: (vs ++ dvs)) (Value.ref (s.heap.objs.size + 1) :: (us ++ ds)) := .cons rfl (r.append hd)
  have hl : (Value.ref (s.heap.objs.size + 1) :: us ++ ds).length = ps.length := by
    have e := r2.length
    rw [F.len _ _ _ _ hq] at e
    exact e.symm
  refine wpAny_call (make_map (f := f) I.kIn M.makes M.init (beq_iff_eq.mp M.fn) (codeAny_mono (F.run _ X.stack _ _ ⟨Value.ref (s.heap.objs.size + 1) :: us, []⟩ (Value.ref (s.heap.objs.size + 1) :: (us ++ ds)) _ _ (E σ) (hr.make C us [])
    (I2.env0.make C us []) (hb _ (Value.ref (s.heap.objs.size + 1) :: us) I2.kIn hl) r2 hq) fun r s' hq' => ?_))
  cases r with
  | error e => exact hx pins _ _ e s' I2 hq'
  | ok fl =>
    cases fl with
    | ret u =>
      obtain ⟨v, H', I3, rv, ev, q3⟩ := I2.after hq'
      subst ev
      exact ⟨rv, ⟨V.ref (s.heap.objs.size + 1), H', I3, rfl, q3⟩⟩
    | next => exact False.elim hq'
    | brk => exact False.elim hq'
    | cont => exact False.elim hq'
theorem pe_makeS (M : Mk X.K C f) (F : FnOk X.prog X.w X.K X.mg X.base CX k f fd ps sp) (hr : Room (k + 1) X.A) (hg : Gl X x) (hm : X.mg x = some (.ref C)) (hb : Binds X.K fd ps ds) (hd : Vals dvs ds) (hx : ∀ σ, PassesAt CX X σ (E σ))
    (ha : PA X (e :: es) t) (hdb : (x == ("__debug__" : Str)) = false := by decide) (he : starEach (e :: es) X.env = (false, eval e X.env) :: starEach es X.env := by rfl) (hpl : (backTo pos (starEach es X.env)).any (·.1) = false := by rfl) :
    PE X (.Call (.Name x p) (e :: es) [] pos) (tMakeS C sp dvs E t) := by
  refine ⟨fun pins s σ H Q I h => ?_⟩
  refine wpAny_Call_Name_kw (ld_glob I hg hm ?_ hdb)
  refine PySem.W.callWith_K (h₀ := X.base) I.ok.mod.kin M.kp (thn (ha.run pos pins s σ H _ I h) fun us s1 ⟨vs, H1, I1, r, q⟩ => ⟨I1.kIn, ?_⟩) he hpl
  exact run_makeS M F hr hb hd (hx σ) I1 r q
end
section
variable {K : PySem.W.Frag} {σ : St} {H : Hp} {Q : VK} {C : Addr} {m : Str} {sp : Sp} {E : St → XK} {ta : TE} {t : TA} {dvs : List V}
theorem z_callS (h : t σ H fun vs H1 => sp vs H1 Q (E σ)) : tCallS sp E t σ H Q := h
theorem z_methS (h : ta σ H fun x H1 => rMeth C m (fun x H1 => t σ H1 fun vs H2 => sp (x :: (vs ++ [])) H2 Q (E σ)) x H1) : tMethS C m sp E ta t σ H Q := h
theorem z_makeS (h : t σ H fun vs H1 => rMake C sp (E σ) dvs Q vs H1) : tMakeS C sp dvs E t σ H Q := h
end
/-- a raise of an own class: the way out -/
def tRaiseZ (C : Addr) (W : WX) : TS := fun _ σ H => W (.ref C) none σ H
theorem ps_raiseZ {X : Cx} {W : WX} {C : Addr} {bmB : List Value} {B newId initId : String} {x m : Str} {j : Nat} {p p2 pos pos' : Pos} (hc : X.calm = true) (tk : Takes X W) (F : ExcBaseFacts B newId initId bmB) (q : PySem.W.excIn X.K C bmB newId = true) (gC : X.mg x = some (.ref C)) (kC : PySem.W.keepIn X.K (.ref C) = true) (r : Raises X (.ref C)) (hg : Gl X x)
    (hdb : (x == ("__debug__" : Str)) = false := by decide) : PS X (.Raise (some (.Call (.Name x p) [.Constant (.str m) j p2] [] pos)) none pos') (tRaiseZ C W) := ps_raise hc tk (pmk_own F q gC kC r hg hdb)
theorem z_raise {C : Addr} {W : WX} {D : Ends} {σ : St} {H : Hp} (h : W (.ref C) none σ H) : tRaiseZ C W D σ H := h
/-- try: .. except x: .. -/
def tTryZ (K : PySem.W.Frag) (c : Value) (tb : WX → TS) (ts : Addr → Value → Option Addr → TS) (Wout : WX) : TS := fun D σ H => tb (wOnly K c ts Wout D) D σ H
theorem ps_tryZ {X : Cx} {K : PySem.W.Frag} {x : Str} {c : Value} {body suite : List Stmt} {b₀ : Stmt} {np pos pos' : Pos} {tb : WX → TS} {ts : Addr → Value → Option Addr → TS} {Wout : WX} (hK : X.K = K) (hs : X.stack = X.env :: X.outer) (hf : X.env.frame = some X.env.locals) (hc : Names X x c) (tk : Takes X Wout)
    (hb : ∀ (W : WX) (pn : List (Addr × Obj)) (xe : Value → Shared → Prop), Takes (X.tr pn xe) W → PassesOwn (model X.prog X.w) X.A X.env xe → PSs (X.tr pn xe) body (tb W))
    (hsu : ∀ (a : Addr) (oe : Obj) (cls : Value) (d : Option Addr) (pn : List (Addr × Obj)), Zc cls d oe → (∃ vs, oe.data = .fields vs) → PSs (X.suite a ((a, oe) :: pn)) (b₀ :: suite) (ts a cls d)) :
    PS X (.Try body [.ExceptHandler (some (.Name x np)) none (b₀ :: suite) pos'] [] [] pos) (tTryZ K c tb ts Wout) := by
  subst hK
  exact ps_try_only hs hf hc tk hb hsu
theorem z_try {K : PySem.W.Frag} {c : Value} {tb : WX → TS} {ts : Addr → Value → Option Addr → TS} {Wout : WX} {D : Ends} {σ : St} {H : Hp} (h : tb (wOnly K c ts Wout D) D σ H) : tTryZ K c tb ts Wout D σ H := h
theorem z_only {K : PySem.W.Frag} {cls c : Value} {ts : Addr → Value → Option Addr → TS} {Wout : WX} {D : Ends} {d : Option Addr} {σ : St} {H : Hp} (he : PySem.W.exmOne K cls c = some true) (h : ∀ a, H a = none → ts a cls d D σ H) : wOnly K c ts Wout D cls d σ H :=
  ⟨true, he, fun _ => h, fun z => Bool.noConfusion z⟩
/-- which class an except clause takes -/
theorem exm_of {K : PySem.W.Frag} {R S : Addr} {b : Bool} (h2 : PySem.W.isClsIn K S = true) (h3 : PySem.W.typeIn K (.ref S) = some (.type "type")) (hb : PySem.W.subIn K (.ref S) (.type "BaseException") = some true) (h4 : PySem.W.subIn K (.ref R) (.ref S) = some b) :
    PySem.W.exmOne K (.ref R) (.ref S) = some b := by
  have e1 : (PySem.W.subIn K (.ref S) (.type "BaseException") == some true) = true := by rw [hb] <;> rfl
  have e2 : ((PySem.W.clsIn K S).isSome && PySem.W.typeIn K (.ref S) == some (.type "type")) = true := by
    have h2' : (PySem.W.clsIn K S).isSome = true := h2
    rw [h2', h3] <;> rfl
  show (if (PySem.W.subIn K (.ref S) (.type "BaseException") == some true) = true then (if ((PySem.W.clsIn K S).isSome && PySem.W.typeIn K (.ref S) == some (.type "type")) = true then PySem.W.subIn K (.ref R) (.ref S) else none) else none) = some b
  rw [if_pos e1, if_pos e2]
  exact h4
/-! ## while -/
theorem p_while {c : TT} {tb : TS} {nx bk ct : St → Hp → Prop} {rt : VK} {σ : St} {H : Hp} (W : Nat → St → Hp → Prop) (h0 : ∃ m, W m σ H)
    (hs : ∀ m σ H, W m σ H → c σ H fun b H1 => if b = true then ∃ N : St → Hp → Prop, (∀ σ' H', N σ' H' → ∃ m', m' < m ∧ W m' σ' H') ∧ tb ⟨N, rt, nx, N⟩ σ H1 else nx σ H1) : tWhile c tb ⟨nx, rt, bk, ct⟩ σ H := ⟨W, h0, hs⟩
/-! ## comprehensions by an invariant -/
theorem c_listG {K : PySem.W.Frag} {σ : St} {H : Hp} {Q : VK} {te : TE} {g : TG} {ws : List Nat} {a : Addr} {xs : List V} (Pv : Addr → Nat → Hp → Prop) (h0 : ∀ D, H D = none → Pv D 0 (upd H D (.lst [])))
    (hl : ∀ D i H', i ≤ xs.length → Pv D i H' → SqL K H' a xs)
    (hs : ∀ D i x H', H D = none → xs[i]? = some x → Pv D i H' → g x (wipe σ ws) H' fun σ2 H2 => wipe σ2 ws = wipe σ ws ∧ te σ2 H2 fun y H4 => ∃ acc, H4 D = some (.lst acc) ∧ acc.length < sizeLine ∧ Pv D (i + 1) (upd H4 D (.lst (acc ++ [y]))))
    (hd : ∀ D H', H D = none → Pv D xs.length H' → Q (.ref D) H')
    (hm : ∀ v σ1 H1 (R R' : St → Hp → Prop), (∀ σ2 H2, R σ2 H2 → R' σ2 H2) → g v σ1 H1 R → g v σ1 H1 R') : LcZ (Itl K a) g tYes te ws σ H Q := fun D hD =>
  lc_list (K := K) (a := a) (xs := xs) (g := g) (tt := tYes) (te := te) (vs := ws) (σ := σ) (Pv D) (h0 D hD) (hl D) (fun i x H' hi p => hm _ _ _ _ _ (fun σ2 H2 ⟨e, q⟩ => ⟨e, by unfold tYes; exact iteT q⟩) (hs D i x H' hD hi p)) fun H' p => hd D H' hD p
theorem gName_mono {j : Nat} : ∀ v σ1 H1 (R R' : St → Hp → Prop), (∀ σ2 H2, R σ2 H2 → R' σ2 H2) → gName j v σ1 H1 R → gName j v σ1 H1 R' := fun _ _ _ _ _ k h => k _ _ h
theorem gTup2_mono {K : PySem.W.Frag} {i j : Nat} : ∀ v σ1 H1 (R R' : St → Hp → Prop), (∀ σ2 H2, R σ2 H2 → R' σ2 H2) → gTup K 2 (gCons (gName i) (gCons (gName j) gNil)) v σ1 H1 R → gTup K 2 (gCons (gName i) (gCons (gName j) gNil)) v σ1 H1 R' := fun _ _ _ _ _ k h => by
  obtain ⟨a, xs, e, s, l, v, r, e1, v2, r2, e2, e3, q⟩ := h
  exact ⟨a, xs, e, s, l, v, r, e1, v2, r2, e2, e3, k _ _ q⟩
end Z

/-! # Values without a heap: what a def computes, as a plain function over data -/
namespace Y
open PySem L2 Z
/-- data -/
inductive D where
  | non | bl (b : Bool) | int (i : Int) | str (x : Str)
  | tup (l : List D) | ctp (l : List D) | lst (l : List D) | clst (l : List D)
  | dK (l : List (Key × D)) | dT (l : List (List Key × D))
  | cid (k : Nat) | ty (n : String)
/-- the classes' places; in a suite: the exception's place, class and dict -/
structure Ct where
  c : Nat → Addr
  xa : Option (Addr × Addr × Option Addr)
  lk : Option Addr
instance : CoeFun Ct (fun _ => Nat → Addr) := ⟨Ct.c⟩
/-- what may be changed -/
inductive Cn where
  | lst (l : List D) | dK (l : List (Key × D)) | dT (l : List (List Key × D)) | obj (c : Nat) (fs : List (Str × D))
structure Exn where
  cls : Nat
  fs : List (Str × D)
inductive Ent where
  | fz (d : D) | ow (c : Cn) | xn (x : Exn)
structure Stt where
  env : List (Option Ent)
  M : List Cn
inductive AI where
  | val (d : D) | slot (i : Nat) | new (c : Cn)
inductive Ro (α : Type) where
  | ok (a : α) (s : Stt) | er (x : Exn) (s : Stt) | no
abbrev Mo (α : Type) := Stt → Ro α
def Ro.bind {α β : Type} (r : Ro α) (f : α → Mo β) : Ro β :=
  match r with
  | .ok a s => f a s
  | .er x s => .er x s
  | .no => .no
inductive Rs where
  | nx (s : Stt) | rt (a : AI) (s : Stt) | bk (s : Stt) | ct (s : Stt) | er (x : Exn) (s : Stt) | no
abbrev Ms := Stt → Rs
/-- a def: what it hands back (a value, or a thing made anew), the objects behind it -/
inductive Fr where
  | ok (a : AI) (M : List Cn) | er (x : Exn) (M : List Cn) | no
abbrev Mf := List D → List Cn → Fr
def Cn.toD : Cn → D
  | .lst l => .lst l
  | .dK l => .dK l
  | .dT l => .dT l
  | .obj _ _ => .non
def Cn.isC : Cn → Bool
  | .obj _ _ => false
  | _ => true
/-! ## what stands for data -/
mutual
inductive Rp (K : PySem.W.Frag) (G : Hp) (α : Nat → Addr) (n : Nat) : V → D → Prop
  | non : Rp K G α n .non .non
  | bl (b : Bool) : Rp K G α n (.bl b) (.bl b)
  | int (i : Int) : Rp K G α n (.int i) (.int i)
  | str (x : Str) : Rp K G α n (.str x) (.str x)
  | tup {a : Addr} {vs : List V} {l : List D} : G a = some (.tup vs) → RpL K G α n vs l → Rp K G α n (.ref a) (.tup l)
  | ctp {a : Addr} {vs : List V} {l : List D} : SqT K G a vs → RpL K G α n vs l → Rp K G α n (.ref a) (.ctp l)
  | lst {a : Addr} {vs : List V} {l : List D} : G a = some (.lst vs) → RpL K G α n vs l → Rp K G α n (.ref a) (.lst l)
  | clst {a : Addr} {vs : List V} {l : List D} : SqL K G a vs → RpL K G α n vs l → Rp K G α n (.ref a) (.clst l)
  | dK {a : Addr} {kvs : List (Key × V)} {l : List (Key × D)} : G a = some (.dK kvs) → kvs.map Prod.fst = l.map Prod.fst → RpL K G α n (kvs.map Prod.snd) (l.map Prod.snd) → Rp K G α n (.ref a) (.dK l)
  | dT {a : Addr} {kvs : List (List Key × V)} {l : List (List Key × D)} : G a = some (.dT kvs) → kvs.map Prod.fst = l.map Prod.fst → RpL K G α n (kvs.map Prod.snd) (l.map Prod.snd) → Rp K G α n (.ref a) (.dT l)
  | cid {k : Nat} : k < n → Rp K G α n (.ref (α k)) (.cid k)
  | ty (m : String) : Rp K G α n (.ty m) (.ty m)
inductive RpL (K : PySem.W.Frag) (G : Hp) (α : Nat → Addr) (n : Nat) : List V → List D → Prop
  | nil : RpL K G α n [] []
  | cons {v : V} {vs : List V} {d : D} {l : List D} : Rp K G α n v d → RpL K G α n vs l → RpL K G α n (v :: vs) (d :: l)
end
theorem rd_mono {G G' : Hp} {a : Addr} {u : HO} (s : Same G G') (h : Rd G a u) : Rd G' a u := by
  rcases h with h | ⟨o, h⟩
  · exact .inl (s _ _ h)
  · exact .inr ⟨o, s _ _ h⟩
theorem st_mono {K : PySem.W.Frag} {G G' : Hp} {a : Addr} {xs : List V} (s : Same G G') (h : SqT K G a xs) : SqT K G' a xs := by
  rcases h with h | h
  · exact .inl (rd_mono s h)
  · exact .inr h
section
variable {K : PySem.W.Frag} {G G' : Hp} {α α' : Nat → Addr} {n n' : Nat}
mutual
theorem Rp.mono (s : Same G G') (ha : ∀ k, k < n → α' k = α k) (hn : n ≤ n') : ∀ {v : V} {d : D}, Rp K G α n v d → Rp K G' α' n' v d
  | _, _, .non => .non
  | _, _, .bl b => .bl b
  | _, _, .int i => .int i
  | _, _, .str x => .str x
  | _, _, .ty x => .ty x
  | _, _, .tup h r => .tup (s _ _ h) (RpL.mono s ha hn r)
  | _, _, .ctp h r => .ctp (st_mono s h) (RpL.mono s ha hn r)
  | _, _, .lst h r => .lst (s _ _ h) (RpL.mono s ha hn r)
  | _, _, .clst h r => .clst (s.seq h) (RpL.mono s ha hn r)
  | _, _, .dK h e r => .dK (s _ _ h) e (RpL.mono s ha hn r)
  | _, _, .dT h e r => .dT (s _ _ h) e (RpL.mono s ha hn r)
  | _, _, .cid (k := k) h => by
    have e := ha k h
    rw [← e]
    exact .cid (Nat.lt_of_lt_of_le h hn)
theorem RpL.mono (s : Same G G') (ha : ∀ k, k < n → α' k = α k) (hn : n ≤ n') : ∀ {vs : List V} {l : List D}, RpL K G α n vs l → RpL K G' α' n' vs l
  | _, _, .nil => .nil
  | _, _, .cons h r => .cons (Rp.mono s ha hn h) (RpL.mono s ha hn r)
end
theorem RpL.length : ∀ {vs : List V} {l : List D}, RpL K G α n vs l → vs.length = l.length
  | _, _, .nil => rfl
  | _, _, .cons _ r => by rw [List.length_cons, List.length_cons, RpL.length r]
theorem RpL.append : ∀ {vs us : List V} {l m : List D}, RpL K G α n vs l → RpL K G α n us m → RpL K G α n (vs ++ us) (l ++ m)
  | _, _, _, _, .nil, h => h
  | _, _, _, _, .cons a r, h => .cons a (r.append h)
theorem RpL.get : ∀ {vs : List V} {l : List D} {i : Nat} {d : D}, RpL K G α n vs l → l[i]? = some d → ∃ v, vs[i]? = some v ∧ Rp K G α n v d
  | _, _, _, _, .nil, e => by simp at e
  | _, _, 0, _, .cons a _, e => ⟨_, rfl, by simp at e; subst e; exact a⟩
  | _, _, i + 1, d, .cons _ r, e => by
    obtain ⟨v, h1, h2⟩ := RpL.get (i := i) (d := d) r (by simpa using e)
    exact ⟨v, by simpa using h1, h2⟩
theorem RpL.get' : ∀ {vs : List V} {l : List D} {i : Nat} {v : V}, RpL K G α n vs l → vs[i]? = some v → ∃ d, l[i]? = some d ∧ Rp K G α n v d
  | _, _, _, _, .nil, e => by simp at e
  | _, _, 0, _, .cons a _, e => ⟨_, rfl, by simp at e; subst e; exact a⟩
  | _, _, i + 1, v, .cons _ r, e => by
    obtain ⟨d, h1, h2⟩ := RpL.get' (i := i) (v := v) r (by simpa using e)
    exact ⟨d, by simpa using h1, h2⟩
theorem RpL.set {v : V} {d : D} (h : Rp K G α n v d) : ∀ {vs : List V} {l : List D} (i : Nat), RpL K G α n vs l → RpL K G α n (vs.set i v) (l.set i d)
  | _, _, _, .nil => .nil
  | _, _, 0, .cons _ r => .cons h r
  | _, _, i + 1, .cons a r => .cons a (RpL.set h i r)
theorem RpL.take : ∀ {vs : List V} {l : List D} (i : Nat), RpL K G α n vs l → RpL K G α n (vs.take i) (l.take i)
  | _, _, 0, _ => .nil
  | _, _, _ + 1, .nil => .nil
  | _, _, i + 1, .cons a r => .cons a (r.take i)
theorem RpL.drop : ∀ {vs : List V} {l : List D} (i : Nat), RpL K G α n vs l → RpL K G α n (vs.drop i) (l.drop i)
  | _, _, 0, h => h
  | _, _, _ + 1, .nil => .nil
  | _, _, i + 1, .cons _ r => r.drop i
theorem RpL.rev : ∀ {vs : List V} {l : List D}, RpL K G α n vs l → RpL K G α n vs.reverse l.reverse
  | _, _, .nil => .nil
  | _, _, .cons a r => by rw [List.reverse_cons, List.reverse_cons]; exact r.rev.append (.cons a .nil)
end
/-! ## what is locked is seen as it is -/
def strip : Option HO → Option HO
  | some (.frz _ (.dK k)) => some (.dK k)
  | some (.frz _ (.dT k)) => some (.dT k)
  | x => x
/-- b: the dict that is locked, if any -/
def U (b : Option Addr) (H : Hp) : Hp := fun a => if b = some a then strip (H a) else H a
section
variable {K : PySem.W.Frag} {b : Option Addr} {H : Hp} {a p : Addr} {o : HO} {vs : List V}
theorem U0 : U none H = H := by funext a; unfold U; rw [if_neg (by simp)]
theorem U_same {H' : Hp} (h : H' a = H a) : U b H' a = U b H a := by unfold U; rw [h]
theorem U_none (h : H a = none) : U b H a = none := by unfold U; rw [h]; split <;> rfl
theorem U_ne (h : a ≠ p) : U b (upd H p o) a = U b H a := U_same (upd_ne h)
theorem uL (h : H a = some (.lst vs)) : U b H a = some (.lst vs) := by unfold U; rw [h]; split <;> rfl
theorem uP (h : H a = some (.tup vs)) : U b H a = some (.tup vs) := by unfold U; rw [h]; split <;> rfl
theorem uK {k : List (Key × V)} (h : H a = some (.dK k)) : U b H a = some (.dK k) := by unfold U; rw [h]; split <;> rfl
theorem uT {k : List (List Key × V)} (h : H a = some (.dT k)) : U b H a = some (.dT k) := by unfold U; rw [h]; split <;> rfl
theorem uX {k : List (Str × V)} (h : H a = some (.xd k)) : U b H a = some (.xd k) := by unfold U; rw [h]; split <;> rfl
theorem U_cases (b : Option Addr) (H : Hp) (a : Addr) : U b H a = H a ∨ (∃ o k, H a = some (.frz o (.dK k)) ∧ U b H a = some (.dK k)) ∨ ∃ o k, H a = some (.frz o (.dT k)) ∧ U b H a = some (.dT k) := by
  unfold U
  split
  · unfold strip
    split
    · rename_i o k h; exact .inr (.inl ⟨o, k, h, rfl⟩)
    · rename_i o k h; exact .inr (.inr ⟨o, k, h, rfl⟩)
    · exact .inl rfl
  · exact .inl rfl
theorem uL' (h : U b H a = some (.lst vs)) : H a = some (.lst vs) := by
  rcases U_cases b H a with e | ⟨o, k, _, e⟩ | ⟨o, k, _, e⟩
  · rw [e] at h; exact h
  · rw [e] at h; cases h
  · rw [e] at h; cases h
theorem uP' (h : U b H a = some (.tup vs)) : H a = some (.tup vs) := by
  rcases U_cases b H a with e | ⟨o, k, _, e⟩ | ⟨o, k, _, e⟩
  · rw [e] at h; exact h
  · rw [e] at h; cases h
  · rw [e] at h; cases h
theorem uX' {k : List (Str × V)} (h : U b H a = some (.xd k)) : H a = some (.xd k) := by
  rcases U_cases b H a with e | ⟨o, k, _, e⟩ | ⟨o, k, _, e⟩
  · rw [e] at h; exact h
  · rw [e] at h; cases h
  · rw [e] at h; cases h
theorem uF' {o : Obj} {u : HO} (h : U b H a = some (.frz o u)) : H a = some (.frz o u) := by
  rcases U_cases b H a with e | ⟨o, k, _, e⟩ | ⟨o, k, _, e⟩
  · rw [e] at h; exact h
  · rw [e] at h; cases h
  · rw [e] at h; cases h
theorem uK' {k : List (Key × V)} (h : U b H a = some (.dK k)) : Rd H a (.dK k) := by
  rcases U_cases b H a with e | ⟨o, k', q, e⟩ | ⟨o, k', q, e⟩
  · rw [e] at h; exact .inl h
  · rw [e] at h; cases h; exact .inr ⟨o, q⟩
  · rw [e] at h; cases h
theorem uT' {k : List (List Key × V)} (h : U b H a = some (.dT k)) : Rd H a (.dT k) := by
  rcases U_cases b H a with e | ⟨o, k', q, e⟩ | ⟨o, k', q, e⟩
  · rw [e] at h; exact .inl h
  · rw [e] at h; cases h
  · rw [e] at h; cases h; exact .inr ⟨o, q⟩
theorem U_grow {H' : Hp} {u : HO} (k : ∀ o, H a = some o → H' a = some o) (h : U b H a = some u) : U b H' a = some u := by
  cases q : H a with
  | none => rw [U_none q] at h; cases h
  | some o =>
    have e : U b H' a = U b H a := U_same (by rw [k o q, q])
    rw [e]; exact h
theorem uSqL (h : SqL K (U b H) a vs) : SqL K H a vs := by
  rcases h with (h | ⟨o, h⟩) | h
  · exact .inl (.inl (uL' h))
  · exact .inl (.inr ⟨o, uF' h⟩)
  · exact .inr h
theorem uSqT (h : SqT K (U b H) a vs) : SqT K H a vs := by
  rcases h with (h | ⟨o, h⟩) | h
  · exact .inl (.inl (uP' h))
  · exact .inl (.inr ⟨o, uF' h⟩)
  · exact .inr h
end
/-! ## the state -/
inductive Lab where
  | id (k : Nat) | slot (i : Nat)
  deriving DecidableEq
structure Sh where
  G : Hp
  α : Nat → Addr
  lab : Addr → Option Lab
def CnOk (K : PySem.W.Frag) (ct : Ct) (S : Sh) (n : Nat) (H : Hp) (p : Addr) : Cn → Prop
  | .lst l => ∃ vs, H p = some (.lst vs) ∧ RpL K S.G S.α n vs l
  | .dK l => ∃ kvs, H p = some (.dK kvs) ∧ kvs.map Prod.fst = l.map Prod.fst ∧ RpL K S.G S.α n (kvs.map Prod.snd) (l.map Prod.snd)
  | .dT l => ∃ kvs, H p = some (.dT kvs) ∧ kvs.map Prod.fst = l.map Prod.fst ∧ RpL K S.G S.α n (kvs.map Prod.snd) (l.map Prod.snd)
  | .obj c fs => ∃ dx fvs, H p = some (.ins (ct c) dx fvs) ∧ fvs.map Prod.fst = fs.map Prod.fst ∧ RpL K S.G S.α n (fvs.map Prod.snd) (fs.map Prod.snd)
def XOk (K : PySem.W.Frag) (S : Sh) (n : Nat) (H : Hp) (x : Exn) (dd : Option Addr) : Prop :=
  (x.fs = [] ∧ dd = none) ∨ ∃ d fvs, dd = some d ∧ S.G d = some (.xd fvs) ∧ fvs.map Prod.fst = x.fs.map Prod.fst ∧ RpL K S.G S.α n (fvs.map Prod.snd) (x.fs.map Prod.snd)
theorem XOk.mono {K : PySem.W.Frag} {S S' : Sh} {n n' : Nat} {H H' : Hp} {x : Exn} {dd : Option Addr} (g : Same S.G S'.G) (al : ∀ k, k < n → S'.α k = S.α k) (hn : n ≤ n') (h : XOk K S n H x dd) : XOk K S' n' H' x dd := by
  rcases h with h | ⟨d, fvs, e, h1, h2, h3⟩
  · exact .inl h
  · exact .inr ⟨d, fvs, e, g _ _ h1, h2, h3.mono g al hn⟩
def EntOk (K : PySem.W.Frag) (ct : Ct) (H0 : Hp) (S : Sh) (n : Nat) (σ : St) (H : Hp) (i : Nat) : Ent → Prop
  | .fz d => ∃ v, σ[i]? = some (some v) ∧ Rp K S.G S.α n v d
  | .ow c => ∃ p, σ[i]? = some (some (.ref p)) ∧ H0 p = none ∧ S.lab p = some (.slot i) ∧ c.isC = true ∧ CnOk K ct S n H p c
  | .xn x => ∃ a d, ct.xa = some (a, ct x.cls, d) ∧ σ[i]? = some (some (.ref a)) ∧ XOk K S n H x d
theorem xn_mono {K : PySem.W.Frag} {ct : Ct} {H0 : Hp} {S S' : Sh} {n n' : Nat} {σ σ' : St} {H H' : Hp} {i : Nat} {x : Exn} (g : Same S.G S'.G) (al : ∀ k, k < n → S'.α k = S.α k) (hn : n ≤ n') (hs : σ'[i]? = σ[i]?) (h : EntOk K ct H0 S n σ H i (.xn x)) : EntOk K ct H0 S' n' σ' H' i (.xn x) := by
  obtain ⟨a, d, h1, h2, h3⟩ := h
  exact ⟨a, d, h1, hs.trans h2, h3.mono g al hn⟩
structure Rel (K : PySem.W.Frag) (ct : Ct) (H0 : Hp) (S : Sh) (s : Stt) (σ : St) (H : Hp) : Prop where
  sub : Same S.G (U ct.lk H)
  lg : ∀ a l, S.lab a = some l → S.G a = none ∧ ∃ o, H a = some o
  dom : ∀ a, H a = none → H0 a = none
  len : σ.length = s.env.length
  slot : ∀ i e, s.env[i]? = some (some e) → EntOk K ct H0 S s.M.length σ H i e
  ids : ∀ k c, s.M[k]? = some c → S.lab (S.α k) = some (.id k) ∧ CnOk K ct S s.M.length H (S.α k) c
structure Stp (S : Sh) (n : Nat) (H : Hp) (S' : Sh) (n' : Nat) (H' : Hp) : Prop where
  g : Same S.G S'.G
  le : n ≤ n'
  al : ∀ k, k < n → S'.α k = S.α k
  fr : ∀ a o, H a = some o → S.lab a = none → H' a = some o ∧ S'.lab a = none
  gn : ∀ a o, S'.G a = some o → S.G a = some o ∨ H a = none ∨ ∃ l, S.lab a = some l
  dom : ∀ a, H' a = none → H a = none
section
variable {S S' S'' : Sh} {n n' n'' : Nat} {H H' H'' : Hp}
theorem Stp.refl : Stp S n H S n H := ⟨fun _ _ e => e, Nat.le_refl _, fun _ _ => rfl, fun _ _ h l => ⟨h, l⟩, fun _ _ h => .inl h, fun _ h => h⟩
theorem Stp.trans (a : Stp S n H S' n' H') (b : Stp S' n' H' S'' n'' H'') : Stp S n H S'' n'' H'' where
  g := fun x o e => b.g x o (a.g x o e)
  le := Nat.le_trans a.le b.le
  al := fun k hk => (b.al k (Nat.lt_of_lt_of_le hk a.le)).trans (a.al k hk)
  fr := fun x o h l => by
    obtain ⟨h1, l1⟩ := a.fr x o h l
    exact b.fr x o h1 l1
  gn := fun x o e => by
    rcases b.gn x o e with h | h | ⟨l, h⟩
    · exact a.gn x o h
    · exact .inr (.inl (a.dom x h))
    · cases q : H x with
      | none => exact .inr (.inl rfl)
      | some u =>
        cases ql : S.lab x with
        | none =>
          have := (a.fr x u q ql).2
          rw [this] at h; cases h
        | some l' => exact .inr (.inr ⟨l', rfl⟩)
  dom := fun x h => a.dom x (b.dom x h)
theorem Rp.step {K : PySem.W.Frag} {v : V} {d : D} (t : Stp S n H S' n' H') (h : Rp K S.G S.α n v d) : Rp K S'.G S'.α n' v d := h.mono t.g t.al t.le
theorem RpL.step {K : PySem.W.Frag} {v : List V} {d : List D} (t : Stp S n H S' n' H') (h : RpL K S.G S.α n v d) : RpL K S'.G S'.α n' v d := h.mono t.g t.al t.le
end
theorem CnOk.mono {K : PySem.W.Frag} {ct : Ct} {S S' : Sh} {n n' : Nat} {H H' : Hp} {p : Addr} {c : Cn} (g : Same S.G S'.G) (al : ∀ k, k < n → S'.α k = S.α k) (hn : n ≤ n') (e : ∀ o, H p = some o → H' p = some o) (h : CnOk K ct S n H p c) : CnOk K ct S' n' H' p c := by
  cases c with
  | lst l => obtain ⟨vs, h1, h2⟩ := h; exact ⟨vs, e _ h1, h2.mono g al hn⟩
  | dK l => obtain ⟨vs, h1, h3, h2⟩ := h; exact ⟨vs, e _ h1, h3, h2.mono g al hn⟩
  | dT l => obtain ⟨vs, h1, h3, h2⟩ := h; exact ⟨vs, e _ h1, h3, h2.mono g al hn⟩
  | obj c fs => obtain ⟨dx, vs, h1, h3, h2⟩ := h; exact ⟨dx, vs, e _ h1, h3, h2.mono g al hn⟩
theorem CnOk.some {K : PySem.W.Frag} {ct : Ct} {S : Sh} {n : Nat} {H : Hp} {p : Addr} {c : Cn} (h : CnOk K ct S n H p c) : ∃ o, H p = some o := by
  cases c with
  | lst l => obtain ⟨vs, h1, _⟩ := h; exact ⟨_, h1⟩
  | dK l => obtain ⟨vs, h1, _⟩ := h; exact ⟨_, h1⟩
  | dT l => obtain ⟨vs, h1, _⟩ := h; exact ⟨_, h1⟩
  | obj c fs => obtain ⟨_, vs, h1, _⟩ := h; exact ⟨_, h1⟩
section
variable {K : PySem.W.Frag} {ct : Ct} {H0 : Hp} {S S' : Sh} {s s' : Stt} {σ : St} {H H' : Hp} {p : Addr} {o : HO}
theorem Rel.labN (r : Rel K ct H0 S s σ H) {a : Addr} (h : H a = none) : S.lab a = none := by
  cases q : S.lab a with
  | none => rfl
  | some l => obtain ⟨_, o, e⟩ := r.lg a l q; rw [e] at h; cases h
theorem Rel.gN (r : Rel K ct H0 S s σ H) {a : Addr} (h : H a = none) : S.G a = none := by
  cases q : S.G a with
  | none => rfl
  | some l => have := r.sub a l q; rw [U_none h] at this; cases this
/-- a new thing that nobody has yet -/
theorem Rel.new (r : Rel K ct H0 S s σ H) (hp : H p = none) : Rel K ct H0 S s σ (upd H p o) := by
  have ne : ∀ {a : Addr} {u : HO}, H a = some u → upd H p o a = some u := fun {a u} e => by rw [upd_ne (ne_of_none e hp)]; exact e
  have cn : ∀ {a : Addr} {c : Cn}, CnOk K ct S s.M.length H a c → CnOk K ct S s.M.length (upd H p o) a c := fun {a c} h => h.mono (fun _ _ e => e) (fun _ _ => rfl) (Nat.le_refl _) (fun _ e => ne e)
  refine ⟨fun a u e => by rw [U_ne (fun z => by subst z; rw [r.gN hp] at e; cases e)]; exact r.sub a u e, fun a l e => ?_, fun a e => ?_, r.len, fun i e h => ?_, fun k c h => ?_⟩
  · obtain ⟨h1, u, h2⟩ := r.lg a l e
    exact ⟨h1, u, ne h2⟩
  · exact r.dom a (upd_none.mp e).2
  · have q := r.slot i e h
    cases e with
    | fz d => exact q
    | xn x => exact xn_mono (fun _ _ e => e) (fun _ _ => rfl) (Nat.le_refl _) rfl q
    | ow c =>
      obtain ⟨a, h1, h2, h3, h4, h5⟩ := q
      exact ⟨a, h1, h2, h3, h4, cn h5⟩
  · obtain ⟨h1, h2⟩ := r.ids k c h
    exact ⟨h1, cn h2⟩
theorem Stp.new (r : Rel K ct H0 S s σ H) (hp : H p = none) {n : Nat} : Stp S n H S n (upd H p o) where
  g := fun _ _ e => e
  le := Nat.le_refl _
  al := fun _ _ => rfl
  fr := fun a u h l => ⟨by rw [upd_ne (ne_of_none h hp)]; exact h, l⟩
  gn := fun _ _ e => .inl e
  dom := fun a e => (upd_none.mp e).2
def Sh.frz (S : Sh) (p : Addr) (o : HO) : Sh := ⟨upd S.G p o, S.α, S.lab⟩
/-- what nobody has is frozen -/
theorem Rel.frz (r : Rel K ct H0 S s σ H) (hp : U ct.lk H p = some o) (hl : S.lab p = none) (hg : S.G p = none) : Rel K ct H0 (S.frz p o) s σ H := by
  have sg : Same S.G (S.frz p o).G := fun a u e => by show upd S.G p o a = _; rw [upd_ne (ne_of_none e hg)]; exact e
  have cn : ∀ {a : Addr} {c : Cn}, CnOk K ct S s.M.length H a c → CnOk K ct (S.frz p o) s.M.length H a c := fun {a c} h => h.mono sg (fun _ _ => rfl) (Nat.le_refl _) (fun _ e => e)
  refine ⟨fun a u e => ?_, fun a l e => ?_, r.dom, r.len, fun i e h => ?_, fun k c h => ?_⟩
  · have e : upd S.G p o a = some u := e
    by_cases q : a = p
    · subst q; rw [upd_same] at e; cases e; exact hp
    · rw [upd_ne q] at e; exact r.sub a u e
  · have e1 : S.lab a = some l := e
    obtain ⟨h1, h2⟩ := r.lg a l e1
    refine ⟨?_, h2⟩
    show upd S.G p o a = none
    rw [upd_ne (fun z => by subst z; rw [e1] at hl; cases hl)]
    exact h1
  · have q := r.slot i e h
    cases e with
    | fz d => obtain ⟨v, h1, h2⟩ := q; exact ⟨v, h1, h2.mono sg (fun _ _ => rfl) (Nat.le_refl _)⟩
    | xn x => exact xn_mono sg (fun _ _ => rfl) (Nat.le_refl _) rfl q
    | ow c =>
      obtain ⟨a, h1, h2, h3, h4, h5⟩ := q
      exact ⟨a, h1, h2, h3, h4, cn h5⟩
  · obtain ⟨h1, h2⟩ := r.ids k c h
    exact ⟨h1, cn h2⟩
theorem Stp.frz {n : Nat} (hg : S.G p = none) (hs : H p = none ∨ ∃ l, S.lab p = some l) (hd : ∀ a, H' a = none → H a = none) (fr : ∀ a u, H a = some u → S.lab a = none → H' a = some u) : Stp S n H (S.frz p o) n H' where
  g := fun a u e => by show upd S.G p o a = _; rw [upd_ne (ne_of_none e hg)]; exact e
  le := Nat.le_refl _
  al := fun _ _ => rfl
  fr := fun a u h l => ⟨fr a u h l, l⟩
  gn := fun a u e => by
    have e : upd S.G p o a = some u := e
    by_cases q : a = p
    · subst q; exact .inr hs
    · rw [upd_ne q] at e; exact .inl e
  dom := hd
end
end Y

namespace Y
open PySem L2 Z
def ItOk (K : PySem.W.Frag) (ct : Ct) (Hs : Hp) (S : Sh) (s : Stt) (σ : St) (H : Hp) (v : V) : AI → Prop
  | .val d => Rp K S.G S.α s.M.length v d
  | .slot i => σ[i]? = some (some v)
  | .new c => ∃ p, v = .ref p ∧ Hs p = none ∧ S.lab p = none ∧ S.G p = none ∧ c.isC = true ∧ CnOk K ct S s.M.length H p c
/-- how a result is told: the heap ahead, the state behind, the thing, its data -/
abbrev RR (β α : Type) := Hp → Sh → Stt → St → Hp → β → α → Prop
section
variable {K : PySem.W.Frag} {ct : Ct} {H0 : Hp} {W : WX}
def Pst (K : PySem.W.Frag) (ct : Ct) (H0 : Hp) {β α : Type} (R : RR β α) (W : WX) (S : Sh) (s : Stt) (σ : St) (H : Hp) (Q : β → Hp → Prop) : Ro α → Prop
  | .ok a s' => ∀ S' b H', Stp S s.M.length H S' s'.M.length H' → Rel K ct H0 S' s' σ H' → R H S' s' σ H' b a → Q b H'
  | .er x s' => ∀ S' H' dd, Stp S s.M.length H S' s'.M.length H' → Rel K ct H0 S' s' σ H' → XOk K S' s'.M.length H' x dd → W (.ref (ct x.cls)) dd σ H'
  | .no => False
def Jd (K : PySem.W.Frag) (ct : Ct) (H0 : Hp) {β α : Type} (R : RR β α) (W : WX) (t : St → Hp → (β → Hp → Prop) → Prop) (m : Mo α) : Prop :=
  ∀ S s σ H Q, Rel K ct H0 S s σ H → Pst K ct H0 R W S s σ H Q (m s) → t σ H Q
/-- a result that is told by an earlier heap, too -/
def Bck {β α : Type} (R : RR β α) : Prop := ∀ H1 H S s σ H' b a, (∀ x, H1 x = none → H x = none) → R H1 S s σ H' b a → R H S s σ H' b a
def RI (K : PySem.W.Frag) (ct : Ct) : RR V AI := fun H S s σ H' v a => ItOk K ct H S s σ H' v a
def RV (K : PySem.W.Frag) : RR V D := fun _ S s _ _ v d => Rp K S.G S.α s.M.length v d
def RVL (K : PySem.W.Frag) : RR (List V) (List D) := fun _ S s _ _ v d => RpL K S.G S.α s.M.length v d
def RB : RR Bool Bool := fun _ _ _ _ _ b a => b = a
def RO : RR (Option Int) (Option Int) := fun _ _ _ _ _ b a => b = a
theorem bI : Bck (RI K ct) := fun H1 H S s σ H' v a k h => by
  cases a with
  | val d => exact h
  | slot i => exact h
  | new c => obtain ⟨p, e, h1, h2⟩ := h; exact ⟨p, e, k _ h1, h2⟩
theorem bV : Bck (RV K) := fun _ _ _ _ _ _ _ _ _ h => h
theorem bVL : Bck (RVL K) := fun _ _ _ _ _ _ _ _ _ h => h
theorem bB : Bck RB := fun _ _ _ _ _ _ _ _ _ h => h
theorem bO : Bck RO := fun _ _ _ _ _ _ _ _ _ h => h
variable {β α γ δ : Type} {R : RR β α} {R' : RR γ δ} {S S1 : Sh} {s s1 : Stt} {σ : St} {H H1 : Hp}
theorem Pst.from {Q : β → Hp → Prop} {r : Ro α} (b : Bck R) (h : Pst K ct H0 R W S s σ H Q r) (t : Stp S s.M.length H S1 s1.M.length H1) : Pst K ct H0 R W S1 s1 σ H1 Q r := by
  cases r with
  | ok a s' => exact fun S' b' H' st rel q => h S' b' H' (t.trans st) rel (b _ _ _ _ _ _ _ _ t.dom q)
  | er x s' => exact fun S' H' dd st rel q => h S' H' dd (t.trans st) rel q
  | no => exact h
theorem Pst.bind {Q : γ → Hp → Prop} {Q1 : β → Hp → Prop} {r : Ro α} {f : α → Mo δ} (b : Bck R') (h : Pst K ct H0 R' W S s σ H Q (r.bind f))
    (k : ∀ S1 s1 H1 x a, Stp S s.M.length H S1 s1.M.length H1 → Rel K ct H0 S1 s1 σ H1 → R H S1 s1 σ H1 x a → Pst K ct H0 R' W S1 s1 σ H1 Q (f a s1) → Q1 x H1) : Pst K ct H0 R W S s σ H Q1 r := by
  cases r with
  | ok a s' => exact fun S' x H' st rel q => k S' s' H' x a st rel q (Pst.from b h st)
  | er x s' => exact h
  | no => exact h
theorem ItOk.step {Hs : Hp} {v : V} {a : AI} (t : Stp S s.M.length H S1 s1.M.length H1) (h : ItOk K ct Hs S s σ H v a) : ItOk K ct Hs S1 s1 σ H1 v a := by
  cases a with
  | val d => exact Rp.step t h
  | slot i => exact h
  | new c =>
    obtain ⟨p, e, h1, h2, h3, h4, h5⟩ := h
    obtain ⟨o, ho⟩ := h5.some
    obtain ⟨k1, k2⟩ := t.fr p o ho h2
    refine ⟨p, e, h1, k2, ?_, h4, h5.mono t.g t.al t.le fun u hu => (t.fr p u hu h2).1⟩
    cases q : S1.G p with
    | none => rfl
    | some u =>
      rcases t.gn p u q with z | z | ⟨l, z⟩
      · rw [h3] at z; cases z
      · rw [ho] at z; cases z
      · rw [h2] at z; cases z
/-! ## what an item shows -/
def Cn.aL : Cn → Option (List D)
  | .lst l => some l
  | _ => none
def Cn.aK : Cn → Option (List (Key × D))
  | .dK l => some l
  | _ => none
def Cn.aT : Cn → Option (List (List Key × D))
  | .dT l => some l
  | _ => none
def listOf (M : List Cn) : D → Option (List D)
  | .lst l => some l
  | .clst l => some l
  | .cid k => M[k]?.bind Cn.aL
  | _ => none
def tupOf : D → Option (List D)
  | .tup l => some l
  | .ctp l => some l
  | _ => none
def dictOf (M : List Cn) : D → Option (List (Key × D))
  | .dK l => some l
  | .cid k => M[k]?.bind Cn.aK
  | _ => none
def dictTOf (M : List Cn) : D → Option (List (List Key × D))
  | .dT l => some l
  | .cid k => M[k]?.bind Cn.aT
  | _ => none
def Ent.toD : Ent → D
  | .fz d => d
  | .ow c => c.toD
  | .xn _ => .non
def Ent.nox : Ent → Option Ent
  | .xn _ => none
  | e => some e
def entAt (s : Stt) (i : Nat) : Option Ent := ((s.env[i]?).getD none).bind Ent.nox
theorem nox_xn {o : Option Ent} {x : Exn} (h : o.bind Ent.nox = some (.xn x)) : False := by
  cases o with
  | none => cases h
  | some e => cases e <;> cases h
theorem entAt_xn {s : Stt} {i : Nat} {x : Exn} (h : entAt s i = some (.xn x)) : False := nox_xn h
theorem entAt_eq {s : Stt} {i : Nat} {e : Ent} (h : entAt s i = some e) : s.env[i]? = some (some e) := by
  unfold entAt at h
  cases q : s.env[i]? with
  | none => rw [q] at h; cases h
  | some z =>
    rw [q] at h
    cases z with
    | none => cases h
    | some z => cases z <;> cases h <;> rfl
/-- an item as data, what it has now -/
def look (s : Stt) : AI → Option D
  | .val d => some d
  | .new c => some c.toD
  | .slot i => (entAt s i).map Ent.toD
def viewL (s : Stt) (a : AI) : Option (List D) := (look s a).bind (listOf s.M)
def viewT (s : Stt) (a : AI) : Option (List D) := (look s a).bind tupOf
def viewD (s : Stt) (a : AI) : Option (List (Key × D)) := (look s a).bind (dictOf s.M)
def viewDT (s : Stt) (a : AI) : Option (List (List Key × D)) := (look s a).bind (dictTOf s.M)
/-- data as the whole heap shows it -/
theorem CnOk.rp {p : Addr} {c : Cn} (r : Rel K ct H0 S s σ H) (hc : c.isC = true) (h : CnOk K ct S s.M.length H p c) : Rp K (U ct.lk H) S.α s.M.length (.ref p) c.toD := by
  cases c with
  | lst l => obtain ⟨vs, h1, h2⟩ := h; exact .lst (uL h1) (h2.mono r.sub (fun _ _ => rfl) (Nat.le_refl _))
  | dK l => obtain ⟨vs, h1, h3, h2⟩ := h; exact .dK (uK h1) h3 (h2.mono r.sub (fun _ _ => rfl) (Nat.le_refl _))
  | dT l => obtain ⟨vs, h1, h3, h2⟩ := h; exact .dT (uT h1) h3 (h2.mono r.sub (fun _ _ => rfl) (Nat.le_refl _))
  | obj c fs => cases hc
theorem look_ok {Hs : Hp} {v : V} {a : AI} {d : D} (r : Rel K ct H0 S s σ H) (i : ItOk K ct Hs S s σ H v a) (e : look s a = some d) : Rp K (U ct.lk H) S.α s.M.length v d := by
  cases a with
  | val d' => cases e; exact Rp.mono r.sub (fun _ _ => rfl) (Nat.le_refl _) i
  | new c =>
    cases e
    obtain ⟨p, rfl, _, _, _, hc, h5⟩ := i
    exact h5.rp r hc
  | slot j =>
    obtain ⟨en, q0, rfl⟩ := Option.map_eq_some_iff.mp e
    have q := entAt_eq q0
    have hh := r.slot j en q
    have hi : σ[j]? = some (some v) := i
    cases en with
    | fz d' =>
      obtain ⟨v', h1, h2⟩ := hh
      rw [hi] at h1; cases h1
      exact h2.mono r.sub (fun _ _ => rfl) (Nat.le_refl _)
    | xn x => exact (entAt_xn q0).elim
    | ow c =>
      obtain ⟨p, h1, _, _, hc, h5⟩ := hh
      rw [hi] at h1; cases h1
      exact h5.rp r hc
/-- the parts of what an item shows are frozen -/
theorem viewL_ok {Hs : Hp} {v : V} {a : AI} {l : List D} (r : Rel K ct H0 S s σ H) (i : ItOk K ct Hs S s σ H v a) (e : viewL s a = some l) : ∃ p vs, v = .ref p ∧ SqL K H p vs ∧ RpL K S.G S.α s.M.length vs l := by
  have cidc : ∀ {k : Nat} {u : V}, Rp K S.G S.α s.M.length u (.cid k) → listOf s.M (.cid k) = some l → ∃ p vs, u = .ref p ∧ SqL K H p vs ∧ RpL K S.G S.α s.M.length vs l := fun {k u} h e => by
    cases h
    obtain ⟨c, q, e1⟩ := Option.bind_eq_some_iff.mp (show s.M[k]?.bind Cn.aL = some l from e)
    cases c with
    | lst l' =>
      cases e1
      obtain ⟨vs, h1, h2⟩ := (r.ids k _ q).2
      exact ⟨_, vs, rfl, .of h1, h2⟩
    | _ => cases e1
  have frz : ∀ {u : V} {d : D}, Rp K S.G S.α s.M.length u d → listOf s.M d = some l → ∃ p vs, u = .ref p ∧ SqL K H p vs ∧ RpL K S.G S.α s.M.length vs l := fun {u d} h e => by
    cases d with
    | lst l' => cases e; cases h with | lst h1 h2 => exact ⟨_, _, rfl, (.of (uL' (r.sub _ _ h1))), h2⟩
    | clst l' => cases e; cases h with | clst h1 h2 => exact ⟨_, _, rfl, uSqL (r.sub.seq h1), h2⟩
    | cid k => exact cidc h e
    | _ => cases e
  have own : ∀ {p : Addr} {c : Cn}, CnOk K ct S s.M.length H p c → c.isC = true → listOf s.M c.toD = some l → ∃ q vs, V.ref p = .ref q ∧ SqL K H q vs ∧ RpL K S.G S.α s.M.length vs l := fun {p c} h hc e => by
    cases c with
    | lst l' => cases e; obtain ⟨vs, h1, h2⟩ := h; exact ⟨p, vs, rfl, .of h1, h2⟩
    | dK l' => cases e
    | dT l' => cases e
    | obj _ _ => cases e
  unfold viewL at e
  cases a with
  | val d => exact frz i e
  | new c =>
    obtain ⟨p, rfl, _, _, _, hc, h5⟩ := i
    exact own h5 hc e
  | slot j =>
    obtain ⟨d, q0, e⟩ := Option.bind_eq_some_iff.mp e
    obtain ⟨en, q1, rfl⟩ := Option.map_eq_some_iff.mp q0
    have q := entAt_eq q1
    have hi : σ[j]? = some (some v) := i
    have hh := r.slot j en q
    cases en with
    | fz d =>
      obtain ⟨v', h1, h2⟩ := hh
      rw [hi] at h1; cases h1
      exact frz h2 e
    | xn x => exact (entAt_xn q1).elim
    | ow c =>
      obtain ⟨p, h1, _, _, hc, h5⟩ := hh
      rw [hi] at h1; cases h1
      exact own h5 hc e
theorem viewT_ok {Hs : Hp} {v : V} {a : AI} {l : List D} (r : Rel K ct H0 S s σ H) (i : ItOk K ct Hs S s σ H v a) (e : viewT s a = some l) : ∃ p vs, v = .ref p ∧ SqT K H p vs ∧ RpL K S.G S.α s.M.length vs l := by
  have frz : ∀ {u : V} {d : D}, Rp K S.G S.α s.M.length u d → tupOf d = some l → ∃ p vs, u = .ref p ∧ SqT K H p vs ∧ RpL K S.G S.α s.M.length vs l := fun {u d} h e => by
    cases d with
    | tup l' => cases e; cases h with | tup h1 h2 => exact ⟨_, _, rfl, .of (uP' (r.sub _ _ h1)), h2⟩
    | ctp l' => cases e; cases h with | ctp h1 h2 => exact ⟨_, _, rfl, uSqT (st_mono r.sub h1), h2⟩
    | _ => cases e
  unfold viewT at e
  cases a with
  | val d => exact frz i e
  | new c => cases c <;> cases e
  | slot j =>
    obtain ⟨d, q0, e⟩ := Option.bind_eq_some_iff.mp e
    obtain ⟨en, q1, rfl⟩ := Option.map_eq_some_iff.mp q0
    have q := entAt_eq q1
    have hi : σ[j]? = some (some v) := i
    have hh := r.slot j en q
    cases en with
    | fz d =>
      obtain ⟨v', h1, h2⟩ := hh
      rw [hi] at h1; cases h1
      exact frz h2 e
    | xn x => exact (entAt_xn q1).elim
    | ow c => cases c <;> cases e
/-! ## to a value -/
def Sh.frzL (S : Sh) (p : Addr) (o : HO) : Sh := ⟨upd S.G p o, S.α, fun a => if a = p then none else S.lab a⟩
def toV : AI → Mo D := fun a s => match a with
  | .val d => .ok d s
  | .new c => .ok c.toD s
  | .slot i => match entAt s i with
    | some (.ow c) => .ok c.toD ⟨s.env.set i (some (.fz c.toD)), s.M⟩
    | some (.fz d) => .ok d s
    | _ => .no
theorem rp_frz {p : Addr} {c : Cn} {n : Nat} {Hx : Hp} (hg : S.G p = none) (hc : c.isC = true) (h : CnOk K ct S n Hx p c) : ∃ o, U ct.lk Hx p = some o ∧ Rp K (upd S.G p o) S.α n (.ref p) c.toD := by
  have sg : ∀ o, Same S.G (upd S.G p o) := fun o a u e => by rw [upd_ne (ne_of_none e hg)]; exact e
  cases c with
  | lst l => obtain ⟨vs, h1, h2⟩ := h; exact ⟨_, uL h1, .lst upd_same (h2.mono (sg _) (fun _ _ => rfl) (Nat.le_refl _))⟩
  | dK l => obtain ⟨vs, h1, h3, h2⟩ := h; exact ⟨_, uK h1, .dK upd_same h3 (h2.mono (sg _) (fun _ _ => rfl) (Nat.le_refl _))⟩
  | dT l => obtain ⟨vs, h1, h3, h2⟩ := h; exact ⟨_, uT h1, .dT upd_same h3 (h2.mono (sg _) (fun _ _ => rfl) (Nat.le_refl _))⟩
  | obj c fs => cases hc
theorem Stp.frzNew {S' : Sh} {n n' : Nat} {H' : Hp} {p : Addr} {o : HO} (t : Stp S n H S' n' H') (hp : H p = none) (hg : S'.G p = none) : Stp S n H (S'.frz p o) n' H' where
  g := fun a u e => by show upd S'.G p o a = _; rw [upd_ne (ne_of_none (t.g a u e) hg)]; exact t.g a u e
  le := t.le
  al := t.al
  fr := t.fr
  gn := fun a u e => by
    have e1 : upd S'.G p o a = some u := e
    by_cases q : a = p
    · subst q; exact .inr (.inl hp)
    · rw [upd_ne q] at e1; exact t.gn a u e1
  dom := t.dom
theorem frz_slot {i : Nat} {c : Cn} (r : Rel K ct H0 S s σ H) (e : s.env[i]? = some (some (.ow c))) : ∃ S' v, σ[i]? = some (some v) ∧ Stp S s.M.length H S' s.M.length H ∧ Rel K ct H0 S' ⟨s.env.set i (some (.fz c.toD)), s.M⟩ σ H ∧ Rp K S'.G S'.α s.M.length v c.toD := by
  obtain ⟨p, h1, h2, h3, h4, h5⟩ := r.slot i _ e
  have hg := (r.lg p _ h3).1
  obtain ⟨o, ho, hr⟩ := rp_frz hg h4 h5
  have sg : Same S.G (upd S.G p o) := fun a u e => by rw [upd_ne (ne_of_none e hg)]; exact e
  have cn : ∀ {a : Addr} {c : Cn}, CnOk K ct S s.M.length H a c → CnOk K ct (S.frzL p o) s.M.length H a c := fun {a c} h => h.mono sg (fun _ _ => rfl) (Nat.le_refl _) (fun _ e => e)
  have labne : ∀ {a : Addr} {l : Lab}, S.lab a = some l → l ≠ .slot i → (S.frzL p o).lab a = some l := fun {a l} h ne => by
    show (if a = p then none else S.lab a) = _
    rw [if_neg (fun z => by subst z; rw [h3] at h; cases h; exact ne rfl)]
    exact h
  refine ⟨S.frzL p o, .ref p, h1, ⟨sg, Nat.le_refl _, fun _ _ => rfl, fun a u h l => ⟨h, ?_⟩, fun a u q => ?_, fun _ h => h⟩, ⟨fun a u q => ?_, fun a l q => ?_, r.dom, ?_, fun j en q => ?_, fun k c' q => ?_⟩, hr⟩
  · show (if a = p then none else S.lab a) = none
    split
    · rfl
    · exact l
  · have q1 : upd S.G p o a = some u := q
    by_cases z : a = p
    · subst z; exact .inr (.inr ⟨_, h3⟩)
    · rw [upd_ne z] at q1; exact .inl q1
  · have q1 : upd S.G p o a = some u := q
    by_cases z : a = p
    · subst z; rw [upd_same] at q1; cases q1; exact ho
    · rw [upd_ne z] at q1; exact r.sub a u q1
  · have q1 : (if a = p then none else S.lab a) = some l := q
    by_cases z : a = p
    · rw [if_pos z] at q1; cases q1
    · rw [if_neg z] at q1
      obtain ⟨k1, k2⟩ := r.lg a l q1
      refine ⟨?_, k2⟩
      show upd S.G p o a = none
      rw [upd_ne z]; exact k1
  · show σ.length = (s.env.set i _).length
    rw [List.length_set]; exact r.len
  · have q1 : (s.env.set i (some (.fz c.toD)))[j]? = some (some en) := q
    by_cases z : i = j
    · subst z
      have hlt : i < s.env.length := (List.getElem?_eq_some_iff.mp e).1
      rw [List.getElem?_set_self hlt] at q1
      cases q1
      exact ⟨_, h1, hr⟩
    · rw [List.getElem?_set_ne z] at q1
      have hh := r.slot j en q1
      cases en with
      | fz d => obtain ⟨v, k1, k2⟩ := hh; exact ⟨v, k1, k2.mono sg (fun _ _ => rfl) (Nat.le_refl _)⟩
      | xn x => exact xn_mono sg (fun _ _ => rfl) (Nat.le_refl _) rfl hh
      | ow c' =>
        obtain ⟨a, k1, k2, k3, k4, k5⟩ := hh
        exact ⟨a, k1, k2, labne k3 (fun w => by cases w; exact z rfl), k4, cn k5⟩
  · obtain ⟨k1, k2⟩ := r.ids k c' q
    exact ⟨labne k1 (fun w => by cases w), cn k2⟩
abbrev Ei (K : PySem.W.Frag) (ct : Ct) (H0 : Hp) (W : WX) (t : TE) (m : Mo AI) : Prop := Jd K ct H0 (RI K ct) W t m
abbrev Ev (K : PySem.W.Frag) (ct : Ct) (H0 : Hp) (W : WX) (t : TE) (m : Mo D) : Prop := Jd K ct H0 (RV K) W t m
abbrev EvL (K : PySem.W.Frag) (ct : Ct) (H0 : Hp) (W : WX) (t : TA) (m : Mo (List D)) : Prop := Jd K ct H0 (RVL K) W t m
abbrev Et (K : PySem.W.Frag) (ct : Ct) (H0 : Hp) (W : WX) (t : TT) (m : Mo Bool) : Prop := Jd K ct H0 RB W t m
abbrev Eo (K : PySem.W.Frag) (ct : Ct) (H0 : Hp) (W : WX) (t : TO) (m : Mo (Option Int)) : Prop := Jd K ct H0 RO W t m
def mV (m : Mo AI) : Mo D := fun s => (m s).bind toV
theorem ev_of {t : TE} {m : Mo AI} (h : Ei K ct H0 W t m) : Ev K ct H0 W t (mV m) := fun S s σ H Q rel p => h S s σ H Q rel (by
  unfold mV at p
  cases q : m s with
  | no => rw [q] at p; exact p
  | er x s' => rw [q] at p; exact p
  | ok a s' =>
    rw [q] at p
    have p : Pst K ct H0 (RV K) W S s σ H Q (toV a s') := p
    intro S' v H' st rel' it
    cases a with
    | val d => exact p S' v H' st rel' it
    | new c =>
      obtain ⟨pp, rfl, h1, h2, h3, h4, h5⟩ := it
      obtain ⟨o, ho, hr⟩ := rp_frz h3 h4 h5
      exact p (S'.frz pp o) _ H' (st.frzNew h1 h3) (rel'.frz ho h2 h3) hr
    | slot i =>
      have hi : σ[i]? = some (some v) := it
      have p : Pst K ct H0 (RV K) W S s σ H Q (match entAt s' i with | some (.ow c) => .ok c.toD ⟨s'.env.set i (some (.fz c.toD)), s'.M⟩ | some (.fz d) => .ok d s' | _ => .no) := p
      cases qe : entAt s' i with
      | none => rw [qe] at p; exact False.elim p
      | some en =>
        rw [qe] at p
        cases en with
        | fz d =>
          obtain ⟨v', k1, k2⟩ := rel'.slot i _ (entAt_eq qe)
          rw [hi] at k1; cases k1
          exact p S' v H' st rel' k2
        | xn x => exact False.elim p
        | ow c =>
          obtain ⟨S2, v', k1, st2, rel2, k2⟩ := frz_slot rel' (entAt_eq qe)
          rw [hi] at k1; cases k1
          exact p S2 v H' (st.trans st2) rel2 k2)
def mI (m : Mo D) : Mo AI := fun s => (m s).bind fun d s' => .ok (.val d) s'
theorem ei_of {t : TE} {m : Mo D} (h : Ev K ct H0 W t m) : Ei K ct H0 W t (mI m) := fun S s σ H Q rel p => h S s σ H Q rel (by
  unfold mI at p
  cases q : m s with
  | no => rw [q] at p; exact p
  | er x s' => rw [q] at p; exact p
  | ok a s' => rw [q] at p; exact p)
/-! ## expressions -/
def mName (i : Nat) : Mo AI := fun s => match entAt s i with
  | some (.fz d) => .ok (.val d) s
  | some (.ow _) => .ok (.slot i) s
  | _ => .no
theorem ei_var {i : Nat} : Ei K ct H0 W (tVar i) (mName i) := fun S s σ H Q rel p => by
  unfold mName at p
  cases q : entAt s i with
  | none => rw [q] at p; exact False.elim p
  | some en =>
    rw [q] at p
    cases en with
    | fz d =>
      obtain ⟨v, h1, h2⟩ := rel.slot i _ (entAt_eq q)
      exact ⟨v, h1, p S v H .refl rel h2⟩
    | xn x => exact False.elim p
    | ow c =>
      obtain ⟨a, h1, _⟩ := rel.slot i _ (entAt_eq q)
      exact ⟨_, h1, p S _ H .refl rel h1⟩
def mC (d : D) : Mo AI := fun s => .ok (.val d) s
/-- what stands for data whatever the heap -/
def CR (K : PySem.W.Frag) (v : V) (d : D) : Prop := ∀ G α n, Rp K G α n v d
theorem ei_c {v : V} {d : D} (h : CR K v d) : Ei K ct H0 W (tC v) (mC d) := fun S s σ H Q rel p => p S v H .refl rel (h _ _ _)
theorem cr_int {i : Int} : CR K (.int i) (.int i) := fun _ _ _ => .int i
theorem cr_bl {b : Bool} : CR K (.bl b) (.bl b) := fun _ _ _ => .bl b
theorem cr_str {x : Str} : CR K (.str x) (.str x) := fun _ _ _ => .str x
theorem cr_non : CR K .non .non := fun _ _ _ => .non
/-- an operator of two items -/
def J2 (K : PySem.W.Frag) (ct : Ct) (H0 : Hp) (r : R2) (f : Stt → AI → AI → Ro AI) : Prop := ∀ W S s σ H Hs Hs' x y a b Q, Rel K ct H0 S s σ H → ItOk K ct Hs S s σ H x a → ItOk K ct Hs' S s σ H y b → Pst K ct H0 (RI K ct) W S s σ H Q (f s a b) → r x y H Q
def J1 (K : PySem.W.Frag) (ct : Ct) (H0 : Hp) (r : V → Hp → VK → Prop) (f : Stt → AI → Ro AI) : Prop := ∀ W S s σ H Hs x a Q, Rel K ct H0 S s σ H → ItOk K ct Hs S s σ H x a → Pst K ct H0 (RI K ct) W S s σ H Q (f s a) → r x H Q
def mOp (f : Stt → AI → AI → Ro AI) (m1 m2 : Mo AI) : Mo AI := fun s => (m1 s).bind fun a s1 => (m2 s1).bind fun b s2 => f s2 a b
def mUn (f : Stt → AI → Ro AI) (m1 : Mo AI) : Mo AI := fun s => (m1 s).bind fun a s1 => f s1 a
theorem ei_op {r : R2} {f : Stt → AI → AI → Ro AI} {ta tb : TE} {m1 m2 : Mo AI} (ho : J2 K ct H0 r f) (h1 : Ei K ct H0 W ta m1) (h2 : Ei K ct H0 W tb m2) : Ei K ct H0 W (tOp r ta tb) (mOp f m1 m2) := fun S s σ H Q rel p =>
  h1 S s σ H _ rel (Pst.bind bI p fun S1 s1 H1 x a st1 rel1 i1 p1 => h2 S1 s1 σ H1 _ rel1 (Pst.bind bI p1 fun S2 s2 H2 y b st2 rel2 i2 p2 => ho W S2 s2 σ H2 _ _ x y a b Q rel2 (i1.step st2) i2 p2))
theorem ei_un {r : V → Hp → VK → Prop} {f : Stt → AI → Ro AI} {ta : TE} {m1 : Mo AI} (ho : J1 K ct H0 r f) (h1 : Ei K ct H0 W ta m1) : Ei K ct H0 W (tUn r ta) (mUn f m1) := fun S s σ H Q rel p =>
  h1 S s σ H _ rel (Pst.bind bI p fun S1 s1 H1 x a st1 rel1 i1 p1 => ho W S1 s1 σ H1 _ x a Q rel1 i1 p1)
end
end Y

namespace Y
open PySem L2 Z
section
variable {K : PySem.W.Frag} {ct : Ct} {H0 : Hp} {W : WX} {S : Sh} {s : Stt} {σ : St} {H : Hp} {Q : VK}
theorem Pst.val {d : D} {v : V} (p : Pst K ct H0 (RI K ct) W S s σ H Q (.ok (.val d) s)) (rel : Rel K ct H0 S s σ H) (h : Rp K S.G S.α s.M.length v d) : Q v H := p S v H .refl rel h
theorem Pst.newC {c : Cn} {q : Addr} {o : HO} (p : Pst K ct H0 (RI K ct) W S s σ H Q (.ok (.new c) s)) (rel : Rel K ct H0 S s σ H) (hp : H q = none) (hc : c.isC = true) (h : CnOk K ct S s.M.length (upd H q o) q c) : Q (.ref q) (upd H q o) :=
  p S _ _ (Stp.new rel hp) (rel.new hp) ⟨q, rfl, hp, rel.labN hp, rel.gN hp, hc, h⟩
theorem Pst.newL {l : List D} {vs : List V} {q : Addr} (p : Pst K ct H0 (RI K ct) W S s σ H Q (.ok (.new (.lst l)) s)) (rel : Rel K ct H0 S s σ H) (hp : H q = none) (h : RpL K S.G S.α s.M.length vs l) : Q (.ref q) (upd H q (.lst vs)) :=
  p.newC rel hp rfl ⟨vs, upd_same, h⟩
theorem Pst.newT {l : List D} {vs : List V} {q : Addr} (p : Pst K ct H0 (RI K ct) W S s σ H Q (.ok (.val (.tup l)) s)) (rel : Rel K ct H0 S s σ H) (hp : H q = none) (h : RpL K S.G S.α s.M.length vs l) : Q (.ref q) (upd H q (.tup vs)) := by
  have hg := rel.gN hp
  refine p (S.frz q (.tup vs)) _ _ ((Stp.new rel hp).frzNew hp hg) ((rel.new hp).frz (uP upd_same) (rel.labN hp) hg) ?_
  exact .tup upd_same (h.mono (fun a u e => by show upd S.G q _ a = _; rw [upd_ne (ne_of_none e hg)]; exact e) (fun _ _ => rfl) (Nat.le_refl _))
end
/-! ## operators -/
def fI0 (g : Int → Int → D) : Stt → AI → AI → Ro AI := fun s a b => match a, b with
  | .val (.int i), .val (.int j) => .ok (.val (g i j)) s
  | _, _ => .no
open Classical in
noncomputable def fI (C : Int → Int → Prop) (g : Int → Int → D) : Stt → AI → AI → Ro AI := fun s a b => match a, b with
  | .val (.int i), .val (.int j) => if C i j then .ok (.val (g i j)) s else .no
  | _, _ => .no
def fAdd : Stt → AI → AI → Ro AI := fun s a b => match a, b with
  | .val (.int i), .val (.int j) => .ok (.val (.int (i + j))) s
  | .val (.str x), .val (.str y) => if x.length + y.length ≤ sizeLine then .ok (.val (.str (x ++ y))) s else .no
  | a, b => match viewL s a, viewL s b with
    | some l, some l' => if l.length + l'.length ≤ sizeLine then .ok (.new (.lst (l ++ l'))) s else .no
    | _, _ => .no
/-- a list that is tracked -/
def listX (M : List Cn) : D → Option (List D)
  | .lst l => some l
  | .cid k => M[k]?.bind Cn.aL
  | _ => none
def viewX (s : Stt) (a : AI) : Option (List D) := (look s a).bind (listX s.M)
open Classical in
noncomputable def fMul : Stt → AI → AI → Ro AI := fun s a b => match a, b with
  | .val (.int i), .val (.int j) => if CMul i j then .ok (.val (.int (i * j))) s else .no
  | a, .val (.int j) => match viewX s a with
    | some l => if -(2 ^ 63) ≤ j ∧ j < 2 ^ 63 ∧ l.length * j.toNat ≤ sizeLine then .ok (.new (.lst (List.replicate j.toNat l).flatten)) s else .no
    | none => .no
  | _, _ => .no
mutual
def D.py : D → Option PyData
  | .non => some .none
  | .bl b => some (.bool b)
  | .int i => some (.int i)
  | .str x => some (.str x)
  | .tup l => (D.pyL l).map .tuple
  | .ctp l => (D.pyL l).map .tuple
  | .lst l => (D.pyL l).map .list
  | .clst l => (D.pyL l).map .list
  | _ => none
def D.pyL : List D → Option (List PyData)
  | [] => some []
  | d :: l => d.py.bind fun x => (D.pyL l).map (x :: ·)
end
def Cn.dat : Cn → Option D
  | .obj _ _ => none
  | c => some c.toD
def deref (M : List Cn) : D → Option D
  | .cid k => M[k]?.bind Cn.dat
  | d => some d
def pyOf (s : Stt) (a : AI) : Option PyData := ((look s a).bind (deref s.M)).bind D.py
def eqOf (s : Stt) (a b : AI) : Option Bool := (pyOf s a).bind fun x => (pyOf s b).bind fun y => if SeqAt.shaped x && SeqAt.shaped y then some (x.eqv y) else none
def fEq : Stt → AI → AI → Ro AI := fun s a b => match eqOf s a b with
  | some k => .ok (.val (.bl k)) s
  | none => .no
def fNe : Stt → AI → AI → Ro AI := fun s a b => match eqOf s a b with
  | some k => .ok (.val (.bl (!k))) s
  | none => .no
def D.isN : D → Bool
  | .non => true
  | _ => false
def isOf (s : Stt) (a b : AI) : Option Bool := match a, b with
  | .val (.bl x), .val (.bl y) => some (x == y)
  | a, .val .non => (look s a).map D.isN
  | _, _ => none
def fIs : Stt → AI → AI → Ro AI := fun s a b => match isOf s a b with
  | some k => .ok (.val (.bl k)) s
  | none => .no
def fIsn : Stt → AI → AI → Ro AI := fun s a b => match isOf s a b with
  | some k => .ok (.val (.bl (!k))) s
  | none => .no
def fIx : Stt → AI → AI → Ro AI := fun s a b => match b with
  | .val (.int i) => match a with
    | .val (.str z) => if z.length ≤ sizeLine then (match atI z.cps.toList i with
      | some c => .ok (.val (.str ⟨#[c]⟩)) s
      | none => .no) else .no
    | a => match viewL s a with
      | some l => (match atI l i with
        | some d => .ok (.val d) s
        | none => .no)
      | none => (match viewT s a with
        | some l => (match atI l i with
          | some d => .ok (.val d) s
          | none => .no)
        | none => .no)
  | _ => .no
section
variable {K : PySem.W.Frag} {ct : Ct} {H0 : Hp} {G : Hp} {α : Nat → Addr} {n : Nat}
mutual
theorem rp_dp : ∀ {d : D} {v : V} {x : PyData}, Rp K G α n v d → d.py = some x → Dp K G v x
  | .non, _, _, .non, e => by cases e; exact .non
  | .bl b, _, _, .bl _, e => by cases e; exact .bl b
  | .int i, _, _, .int _, e => by cases e; exact .int i
  | .str y, _, _, .str _, e => by cases e; exact .str y
  | .tup l, _, _, .tup h r, e => by
    obtain ⟨xs, q, rfl⟩ := Option.map_eq_some_iff.mp (show (D.pyL l).map PyData.tuple = some _ from e)
    exact .tup (.of h) (rpL_dp r q)
  | .ctp l, _, _, .ctp h r, e => by
    obtain ⟨xs, q, rfl⟩ := Option.map_eq_some_iff.mp (show (D.pyL l).map PyData.tuple = some _ from e)
    exact .tup h (rpL_dp r q)
  | .lst l, _, _, .lst h r, e => by
    obtain ⟨xs, q, rfl⟩ := Option.map_eq_some_iff.mp (show (D.pyL l).map PyData.list = some _ from e)
    exact .lst (.of h) (rpL_dp r q)
  | .clst l, _, _, .clst h r, e => by
    obtain ⟨xs, q, rfl⟩ := Option.map_eq_some_iff.mp (show (D.pyL l).map PyData.list = some _ from e)
    exact .lst h (rpL_dp r q)
  | .dK _, _, _, _, e => by cases e
  | .dT _, _, _, _, e => by cases e
  | .cid _, _, _, _, e => by cases e
  | .ty _, _, _, _, e => by cases e
theorem rpL_dp : ∀ {l : List D} {vs : List V} {xs : List PyData}, RpL K G α n vs l → D.pyL l = some xs → DpAll K G vs xs
  | [], _, _, .nil, e => by cases e; exact .nil
  | d :: l, _, _, .cons h r, e => by
    obtain ⟨x, q, e1⟩ := Option.bind_eq_some_iff.mp (show (d.py.bind fun x => (D.pyL l).map (x :: ·)) = some _ from e)
    obtain ⟨ys, q2, rfl⟩ := Option.map_eq_some_iff.mp e1
    exact .cons (rp_dp h q) (rpL_dp r q2)
end
mutual
theorem uDp {b : Option Addr} {H : Hp} : ∀ {v : V} {x : PyData}, Dp K (U b H) v x → Dp K H v x
  | _, _, .non => .non
  | _, _, .bl b => .bl b
  | _, _, .int i => .int i
  | _, _, .str y => .str y
  | _, _, .lst h r => .lst (uSqL h) (uDpL r)
  | _, _, .tup h r => .tup (uSqT h) (uDpL r)
theorem uDpL {b : Option Addr} {H : Hp} : ∀ {vs : List V} {xs : List PyData}, DpAll K (U b H) vs xs → DpAll K H vs xs
  | _, _, .nil => .nil
  | _, _, .cons h r => .cons (uDp h) (uDpL r)
end
variable {W : WX} {S : Sh} {s : Stt} {σ : St} {H : Hp} {Q : VK}
theorem deref_ok {v : V} {d e : D} (rel : Rel K ct H0 S s σ H) (h : Rp K (U ct.lk H) S.α s.M.length v d) (q : deref s.M d = some e) : Rp K (U ct.lk H) S.α s.M.length v e := by
  cases d with
  | cid k =>
    obtain ⟨c, hc, e1⟩ := Option.bind_eq_some_iff.mp (show s.M[k]?.bind Cn.dat = some e from q)
    cases h
    have hh := (rel.ids k c hc).2
    cases c with
    | obj _ _ => cases e1
    | lst l => cases e1; exact hh.rp rel rfl
    | dK l => cases e1; exact hh.rp rel rfl
    | dT l => cases e1; exact hh.rp rel rfl
  | _ => cases q; exact h
theorem pyOf_ok {Hs : Hp} {v : V} {a : AI} {x : PyData} (rel : Rel K ct H0 S s σ H) (i : ItOk K ct Hs S s σ H v a) (e : pyOf s a = some x) : Dp K H v x := by
  obtain ⟨d, e1, e2⟩ := Option.bind_eq_some_iff.mp e
  obtain ⟨d0, e0, e1⟩ := Option.bind_eq_some_iff.mp e1
  exact uDp (rp_dp (deref_ok rel (look_ok rel i e0) e1) e2)
theorem eqOf_ok {Hs Hs' : Hp} {v w : V} {a b : AI} {k : Bool} (rel : Rel K ct H0 S s σ H) (i : ItOk K ct Hs S s σ H v a) (j : ItOk K ct Hs' S s σ H w b) (e : eqOf s a b = some k) :
    ∃ x y, Dp K H v x ∧ Dp K H w y ∧ SeqAt.shaped x = true ∧ SeqAt.shaped y = true ∧ x.eqv y = k := by
  obtain ⟨x, e1, e⟩ := Option.bind_eq_some_iff.mp e
  obtain ⟨y, e2, e⟩ := Option.bind_eq_some_iff.mp e
  split at e
  · rename_i h
    rw [Bool.and_eq_true] at h
    cases e
    exact ⟨x, y, pyOf_ok rel i e1, pyOf_ok rel j e2, h.1, h.2, rfl⟩
  · cases e
theorem viewX_ok {Hs : Hp} {v : V} {a : AI} {l : List D} (r : Rel K ct H0 S s σ H) (i : ItOk K ct Hs S s σ H v a) (e : viewX s a = some l) : ∃ p vs, v = .ref p ∧ H p = some (.lst vs) ∧ RpL K S.G S.α s.M.length vs l := by
  have cidc : ∀ {k : Nat} {u : V}, Rp K S.G S.α s.M.length u (.cid k) → listX s.M (.cid k) = some l → ∃ p vs, u = .ref p ∧ H p = some (.lst vs) ∧ RpL K S.G S.α s.M.length vs l := fun {k u} h e => by
    cases h
    obtain ⟨c, q, e1⟩ := Option.bind_eq_some_iff.mp (show s.M[k]?.bind Cn.aL = some l from e)
    cases c with
    | lst l' =>
      cases e1
      obtain ⟨vs, h1, h2⟩ := (r.ids k _ q).2
      exact ⟨_, vs, rfl, h1, h2⟩
    | _ => cases e1
  have frz : ∀ {u : V} {d : D}, Rp K S.G S.α s.M.length u d → listX s.M d = some l → ∃ p vs, u = .ref p ∧ H p = some (.lst vs) ∧ RpL K S.G S.α s.M.length vs l := fun {u d} h e => by
    cases d with
    | lst l' => cases e; cases h with | lst h1 h2 => exact ⟨_, _, rfl, uL' (r.sub _ _ h1), h2⟩
    | cid k => exact cidc h e
    | _ => cases e
  have own : ∀ {p : Addr} {c : Cn}, CnOk K ct S s.M.length H p c → listX s.M c.toD = some l → ∃ q vs, V.ref p = .ref q ∧ H q = some (.lst vs) ∧ RpL K S.G S.α s.M.length vs l := fun {p c} h e => by
    cases c with
    | lst l' => cases e; obtain ⟨vs, h1, h2⟩ := h; exact ⟨p, vs, rfl, h1, h2⟩
    | dK l' => cases e
    | dT l' => cases e
    | obj _ _ => cases e
  unfold viewX at e
  cases a with
  | val d => exact frz i e
  | new c =>
    obtain ⟨p, rfl, _, _, _, hc, h5⟩ := i
    exact own h5 e
  | slot j =>
    obtain ⟨d, q0, e⟩ := Option.bind_eq_some_iff.mp e
    obtain ⟨en, q1, rfl⟩ := Option.map_eq_some_iff.mp q0
    have q := entAt_eq q1
    have hi : σ[j]? = some (some v) := i
    have hh := r.slot j en q
    cases en with
    | fz d =>
      obtain ⟨v', h1, h2⟩ := hh
      rw [hi] at h1; cases h1
      exact frz h2 e
    | xn x => exact (entAt_xn q1).elim
    | ow c =>
      obtain ⟨p, h1, _, _, hc, h5⟩ := hh
      rw [hi] at h1; cases h1
      exact own h5 e
/-! ### the rules -/
theorem rp_int {v : V} {i : Int} (h : Rp K G α n v (.int i)) : v = .int i := by cases h; rfl
theorem rp_str {v : V} {x : Str} (h : Rp K G α n v (.str x)) : v = .str x := by cases h; rfl
theorem rp_bl {v : V} {x : Bool} (h : Rp K G α n v (.bl x)) : v = .bl x := by cases h; rfl
theorem j_I0 {gV : Int → Int → V} {g : Int → Int → D} (hg : ∀ i j, CR K (gV i j) (g i j)) : J2 K ct H0 (rI0 gV) (fI0 g) := fun W S s σ H Hs Hs' x y a b Q rel ia ib p => by
  unfold fI0 at p
  split at p
  · rename_i i j
    cases rp_int ia; cases rp_int ib
    exact ⟨i, j, rfl, rfl, p.val rel (hg _ _ _ _ _)⟩
  · exact False.elim p
theorem j_I {C : Int → Int → Prop} {gV : Int → Int → V} {g : Int → Int → D} (hg : ∀ i j, CR K (gV i j) (g i j)) : J2 K ct H0 (rI C gV) (fI C g) := fun W S s σ H Hs Hs' x y a b Q rel ia ib p => by
  unfold fI at p
  split at p
  · rename_i i j
    cases rp_int ia; cases rp_int ib
    split at p
    · rename_i hc
      exact ⟨i, j, rfl, rfl, hc, p.val rel (hg _ _ _ _ _)⟩
    · exact False.elim p
  · exact False.elim p
theorem j_add : J2 K ct H0 (rAddZ K) fAdd := fun W S s σ H Hs Hs' x y a b Q rel ia ib p => by
  unfold fAdd at p
  split at p
  · rename_i i j
    cases rp_int ia; cases rp_int ib
    exact .inl (.inl ⟨i, j, rfl, rfl, p.val rel (.int _)⟩)
  · rename_i i j
    cases rp_str ia; cases rp_str ib
    split at p
    · rename_i hc
      exact .inl (.inr ⟨i, j, rfl, rfl, hc, p.val rel (.str _)⟩)
    · exact False.elim p
  · split at p
    · rename_i l l' e1 e2
      split at p
      · rename_i hc
        obtain ⟨p1, vs, rfl, h1, r1⟩ := viewL_ok rel ia e1
        obtain ⟨p2, us, rfl, h2, r2⟩ := viewL_ok rel ib e2
        refine .inr ⟨p1, p2, vs, us, rfl, rfl, h1, h2, by rw [r1.length, r2.length]; exact hc, fun q hq => p.newL rel hq (r1.append r2)⟩
      · exact False.elim p
    · exact False.elim p
theorem rpL_rep {vs : List V} {l : List D} (h : RpL K G α n vs l) : ∀ k : Nat, RpL K G α n (List.replicate k vs).flatten (List.replicate k l).flatten
  | 0 => .nil
  | k + 1 => by rw [List.replicate_succ, List.replicate_succ, List.flatten_cons, List.flatten_cons]; exact h.append (rpL_rep h k)
theorem j_mul : J2 K ct H0 rMulZ fMul := fun W S s σ H Hs Hs' x y a b Q rel ia ib p => by
  unfold fMul at p
  split at p
  · rename_i i j
    cases rp_int ia; cases rp_int ib
    split at p
    · rename_i hc
      exact .inl ⟨i, j, rfl, rfl, hc, p.val rel (.int _)⟩
    · exact False.elim p
  · rename_i a' j _
    cases rp_int ib
    split at p
    · rename_i l e1
      split at p
      · rename_i hc
        obtain ⟨p1, vs, rfl, h1, r1⟩ := viewX_ok rel ia e1
        exact .inr ⟨p1, j, vs, rfl, rfl, h1, hc.1, hc.2.1, by rw [r1.length]; exact hc.2.2, fun q hq => p.newL rel hq (rpL_rep r1 _)⟩
      · exact False.elim p
    · exact False.elim p
  · exact False.elim p
theorem j_eq : J2 K ct H0 (rEqZ K) fEq := fun W S s σ H Hs Hs' x y a b Q rel ia ib p => by
  unfold fEq at p
  split at p
  · rename_i k e
    obtain ⟨d, f, h1, h2, h3, h4, rfl⟩ := eqOf_ok rel ia ib e
    exact .inr ⟨d, f, h1, h2, h3, h4, p.val rel (.bl _)⟩
  · exact False.elim p
theorem j_ne : J2 K ct H0 (rNeZ K) fNe := fun W S s σ H Hs Hs' x y a b Q rel ia ib p => by
  unfold fNe at p
  split at p
  · rename_i k e
    obtain ⟨d, f, h1, h2, h3, h4, rfl⟩ := eqOf_ok rel ia ib e
    exact .inr ⟨d, f, h1, h2, h3, h4, p.val rel (.bl _)⟩
  · exact False.elim p
theorem rp_isN {v : V} {d : D} (h : Rp K G α n v d) : decide (v = .non) = d.isN := by cases h <;> rfl
theorem j_is : J2 K ct H0 rIsZ fIs := fun W S s σ H Hs Hs' x y a b Q rel ia ib p => by
  unfold fIs at p
  split at p
  · rename_i k e
    unfold isOf at e
    split at e
    · rename_i b1 b2
      cases rp_bl ia; cases rp_bl ib; cases e
      exact .inr ⟨b1, b2, rfl, rfl, p.val rel (.bl _)⟩
    · rename_i a' _
      obtain ⟨d, e1, rfl⟩ := Option.map_eq_some_iff.mp e
      have ib' : Rp K S.G S.α s.M.length y .non := ib
      cases ib'
      refine .inl ⟨rfl, ?_⟩
      rw [rp_isN (look_ok rel ia e1)]
      exact p.val rel (.bl _)
    · cases e
  · exact False.elim p
theorem j_isn : J2 K ct H0 rIsnZ fIsn := fun W S s σ H Hs Hs' x y a b Q rel ia ib p => by
  unfold fIsn at p
  split at p
  · rename_i k e
    unfold isOf at e
    split at e
    · rename_i b1 b2
      cases rp_bl ia; cases rp_bl ib; cases e
      exact .inr ⟨b1, b2, rfl, rfl, p.val rel (.bl _)⟩
    · rename_i a' _
      obtain ⟨d, e1, rfl⟩ := Option.map_eq_some_iff.mp e
      have ib' : Rp K S.G S.α s.M.length y .non := ib
      cases ib'
      refine .inl ⟨rfl, ?_⟩
      rw [rp_isN (look_ok rel ia e1)]
      exact p.val rel (.bl _)
    · cases e
  · exact False.elim p
theorem atI_rp {vs : List V} {l : List D} {i : Int} {d : D} (r : RpL K G α n vs l) (e : atI l i = some d) : ∃ v, atI vs i = some v ∧ Rp K G α n v d := by
  unfold atI at e ⊢
  obtain ⟨j, e1, e2⟩ := Option.bind_eq_some_iff.mp e
  obtain ⟨v, h1, h2⟩ := r.get e2
  exact ⟨v, by rw [r.length, e1]; exact h1, h2⟩
theorem j_ix : J2 K ct H0 (rIx K) fIx := fun W S s σ H Hs Hs' x y a b Q rel ia ib p => by
  unfold fIx at p
  split at p
  · rename_i i
    cases rp_int ib
    split at p
    · rename_i z
      cases rp_str ia
      split at p
      · rename_i hz
        split at p
        · rename_i c e
          exact .inr (.inr ⟨z, i, c, rfl, rfl, hz, e, p.val rel (.str _)⟩)
        · exact False.elim p
      · exact False.elim p
    · split at p
      · rename_i l e
        split at p
        · rename_i d e2
          obtain ⟨q, vs, rfl, h1, r1⟩ := viewL_ok rel ia e
          obtain ⟨v, h2, h3⟩ := atI_rp r1 e2
          exact .inl ⟨q, vs, i, v, rfl, rfl, h1, h2, p.val rel h3⟩
        · exact False.elim p
      · split at p
        · rename_i l e
          split at p
          · rename_i d e2
            obtain ⟨q, vs, rfl, h1, r1⟩ := viewT_ok rel ia e
            obtain ⟨v, h2, h3⟩ := atI_rp r1 e2
            exact .inr (.inl ⟨q, vs, i, v, rfl, rfl, h1, h2, p.val rel h3⟩)
          · exact False.elim p
        · exact False.elim p
  · exact False.elim p
end
end Y

namespace Y
open PySem L2 Z
/-! ## further rules of the layer below, several kinds at once -/
section
variable {X : Cx}
def rDIx : R2 := fun x y H Q => ∃ a v, x = .ref a ∧ DGet H a y (some v) ∧ Q v H
theorem ix_dict (hu : X.A.units + 1 < cLine) : IxR X rDIx := by
  intro value slice pins s σ H x y v u Q I rx ry h hs
  obtain ⟨a, r, rfl, g, q⟩ := h
  obtain rfl : v = Value.ref a := rx
  exact PyProof.Rows.tail_any (dict_typeIs I g) PySem.F.slot_dict_getitem.lookup (d_getItem hu I g ry fun w' s3 I3 rw' => ⟨r, H, I3, rw', q⟩) hs
def rIxY (K : PySem.W.Frag) : R2 := fun x y H Q => rIx K x y H Q ∨ rDIx x y H Q
theorem ix_Y {K : PySem.W.Frag} (hK : X.K = K) (hu : X.A.units + 1 < cLine) : IxR X (rIxY K) := by subst hK; exact ix_seq.or (ix_dict hu)
def rDIn (k : Bool → Bool) : R2 := fun y x H Q => ∃ a o, x = .ref a ∧ DGet H a y o ∧ Q (.bl (k o.isSome)) H
theorem op_din (hu : X.A.units + 1 < cLine) : OpR X (compareOp .In) (rDIn id) := by
  intro pins s σ H y x v u Q I ry rx h
  obtain ⟨a, o, rfl, g, q⟩ := h
  obtain rfl : u = Value.ref a := rx
  exact d_in hu I g ry fun s3 I3 => ⟨.bl o.isSome, H, I3, rfl, q⟩
theorem op_dnin (hu : X.A.units + 1 < cLine) : OpR X (compareOp .NotIn) (rDIn not) := by
  intro pins s σ H y x v u Q I ry rx h
  obtain ⟨a, o, rfl, g, q⟩ := h
  obtain rfl : u = Value.ref a := rx
  exact d_notIn hu I g ry fun s3 I3 => ⟨.bl (!o.isSome), H, I3, rfl, q⟩
def rSIn (k : Bool → Bool) : R2 := fun x y H Q => ∃ i j, x = .str i ∧ y = .str j ∧ Q (.bl (k (!(Builtin.Str.occurrences j i 0 j.length 1).isEmpty))) H
/-- in, not in: of a list, a tuple of flat things, a text, a dict -/
def rInY (K : PySem.W.Frag) : R2 := fun x y H Q => ((rInD K x y H Q ∨ rIn K false x y H Q) ∨ rSIn id x y H Q) ∨ rDIn id x y H Q
def rNinY (K : PySem.W.Frag) : R2 := fun x y H Q => ((rNotInD K x y H Q ∨ rIn K true x y H Q) ∨ rSIn not x y H Q) ∨ rDIn not x y H Q
theorem op_inY {K : PySem.W.Frag} (hK : X.K = K) (hu : X.A.units + 65 < cLine) : OpR X (compareOp .In) (rInY K) := by
  subst hK; exact L2.OpR.or (L2.OpR.or (L2.OpR.or (op_inD hu) op_in_seq) op_in_str) (op_din (by omega))
theorem op_ninY {K : PySem.W.Frag} (hK : X.K = K) (hu : X.A.units + 65 < cLine) : OpR X (compareOp .NotIn) (rNinY K) := by
  subst hK; exact L2.OpR.or (L2.OpR.or (L2.OpR.or (op_notInD hu) op_notIn_seq) op_notin_str) (op_dnin (by omega))
/-- len of a dict, too -/
def rLenY (K : PySem.W.Frag) : List V → Hp → VK → Prop := fun xs H Q => rLenZ K xs H Q ∨ ∃ a kvs, xs = [V.ref a] ∧ Rd H a (.dK kvs) ∧ Q (.int kvs.length) H
theorem call_lenR : CallR X (.builtin "len") (fun xs H Q => ∃ a kvs, xs = [V.ref a] ∧ Rd H a (.dK kvs) ∧ Q (.int kvs.length) H) := by
  intro pins s σ H xs us Q I r h
  obtain ⟨a, kvs, rfl, ha, q⟩ := h
  obtain ⟨u, rfl, ru⟩ := vals1 r
  cases ru
  exact d_len I ha fun t s' I' => ⟨.int kvs.length, H, I', ⟨t, rfl⟩, q⟩
theorem call_lenY {K : PySem.W.Frag} (hK : X.K = K) : CallR X (.builtin "len") (rLenY K) := L2.CallR.or (call_lenZ hK) call_lenR
end
/-! ## dicts as lists of pairs -/
section
variable {κ β γ : Type} [DecidableEq κ]
def vl (l : List (κ × β)) (k : κ) : Option β := (l.find? fun p => decide (p.1 = k)).map (·.2)
def pu (l : List (κ × β)) (k : κ) (v : β) : List (κ × β) := if (l.any fun p => decide (p.1 = k)) = true then l.map (fun p => if p.1 = k then (p.1, v) else p) else l ++ [(k, v)]
def dr (l : List (κ × β)) (k : κ) : List (κ × β) := l.filter fun p => decide (p.1 ≠ k)
end
section
variable {K : PySem.W.Frag} {G : Hp} {α : Nat → Addr} {n : Nat} {κ : Type} [DecidableEq κ]
inductive RpK (K : PySem.W.Frag) (G : Hp) (α : Nat → Addr) (n : Nat) {κ : Type} : List (κ × V) → List (κ × D) → Prop
  | nil : RpK K G α n [] []
  | cons {k : κ} {v : V} {d : D} {kvs : List (κ × V)} {l : List (κ × D)} : Rp K G α n v d → RpK K G α n kvs l → RpK K G α n ((k, v) :: kvs) ((k, d) :: l)
theorem RpK.of {κ : Type} : ∀ {kvs : List (κ × V)} {l : List (κ × D)}, kvs.map Prod.fst = l.map Prod.fst → RpL K G α n (kvs.map Prod.snd) (l.map Prod.snd) → RpK K G α n kvs l
  | [], [], _, _ => .nil
  | [], _ :: _, e, _ => by simp at e
  | _ :: _, [], e, _ => by simp at e
  | (k, v) :: r, (k', d) :: r', e, h => by
    simp only [List.map_cons] at e h
    injection e with e1 e2
    have e1 : k = k' := e1
    subst e1
    cases h with
    | cons a b => exact .cons a (RpK.of e2 b)
theorem RpK.keys {κ : Type} : ∀ {kvs : List (κ × V)} {l : List (κ × D)}, RpK K G α n kvs l → kvs.map Prod.fst = l.map Prod.fst
  | _, _, .nil => rfl
  | _, _, .cons _ r => by rw [List.map_cons, List.map_cons, r.keys]
theorem RpK.vals {κ : Type} : ∀ {kvs : List (κ × V)} {l : List (κ × D)}, RpK K G α n kvs l → RpL K G α n (kvs.map Prod.snd) (l.map Prod.snd)
  | _, _, .nil => .nil
  | _, _, .cons a r => .cons a r.vals
theorem RpK.len {κ : Type} {kvs : List (κ × V)} {l : List (κ × D)} (h : RpK K G α n kvs l) : kvs.length = l.length := by
  have := congrArg List.length h.keys
  simpa using this
theorem RpK.get {k : κ} : ∀ {kvs : List (κ × V)} {l : List (κ × D)}, RpK K G α n kvs l → (vl l k = none ∧ valV kvs k = none) ∨ ∃ v d, vl l k = some d ∧ valV kvs k = some v ∧ Rp K G α n v d
  | _, _, .nil => .inl ⟨rfl, rfl⟩
  | _, _, .cons (k := k') (v := v) (d := d) (kvs := kvs) (l := l) a r => by
    by_cases e : k' = k
    · refine .inr ⟨v, d, ?_, ?_, a⟩
      · unfold vl; rw [List.find?_cons, decide_eq_true (show (k', d).1 = k from e)]; rfl
      · exact valV_pos e
    · have h1 : vl ((k', d) :: l) k = vl l k := by unfold vl; rw [List.find?_cons, decide_eq_false (show ¬ (k', d).1 = k from e)]
      rw [h1, valV_neg (p := (k', v)) e]
      exact r.get
theorem RpK.append {κ : Type} : ∀ {kvs kvs' : List (κ × V)} {l l' : List (κ × D)}, RpK K G α n kvs l → RpK K G α n kvs' l' → RpK K G α n (kvs ++ kvs') (l ++ l')
  | _, _, _, _, .nil, h => h
  | _, _, _, _, .cons a r, h => .cons a (r.append h)
theorem RpK.any {k : κ} : ∀ {kvs : List (κ × V)} {l : List (κ × D)}, RpK K G α n kvs l → (kvs.any fun p => decide (p.1 = k)) = l.any fun p => decide (p.1 = k)
  | _, _, .nil => rfl
  | _, _, .cons _ r => by rw [List.any_cons, List.any_cons, r.any]
theorem RpK.put {k : κ} {v : V} {d : D} {kvs : List (κ × V)} {l : List (κ × D)} (h : RpK K G α n kvs l) (hv : Rp K G α n v d) : RpK K G α n (putK kvs k v) (pu l k d) := by
  have mp : ∀ {kvs : List (κ × V)} {l : List (κ × D)}, RpK K G α n kvs l → RpK K G α n (kvs.map fun kv => if kv.1 = k then (kv.1, v) else kv) (l.map fun p => if p.1 = k then (p.1, d) else p) := by
    intro kvs l h
    induction h with
    | nil => exact .nil
    | @cons k' v' d' kvs l a r ih =>
      rw [List.map_cons, List.map_cons]
      by_cases e : k' = k
      · rw [if_pos (show (k', v').1 = k from e), if_pos (show (k', d').1 = k from e)]; exact .cons hv ih
      · rw [if_neg (show ¬ (k', v').1 = k from e), if_neg (show ¬ (k', d').1 = k from e)]; exact .cons a ih
  unfold putK pu
  rw [h.any]
  split
  · exact mp h
  · exact h.append (.cons hv .nil)
theorem RpK.drop {k : κ} : ∀ {kvs : List (κ × V)} {l : List (κ × D)}, RpK K G α n kvs l → RpK K G α n (dropK kvs k) (dr l k)
  | _, _, .nil => .nil
  | _, _, .cons (k := k') (v := v) (d := d) (kvs := kvs) (l := l) a r => by
    unfold dropK dr
    rw [List.filter_cons, List.filter_cons]
    by_cases e : k' = k
    · rw [if_neg (by simp [e]), if_neg (by simp [e])]; exact r.drop
    · rw [if_pos (by simp [e]), if_pos (by simp [e])]; exact .cons a r.drop
theorem RpK.mono {κ : Type} {G' : Hp} {α' : Nat → Addr} {n' : Nat} {kvs : List (κ × V)} {l : List (κ × D)} (s : Same G G') (ha : ∀ k, k < n → α' k = α k) (hn : n ≤ n') (h : RpK K G α n kvs l) : RpK K G' α' n' kvs l := RpK.of h.keys (h.vals.mono s ha hn)
end
/-! ## tests -/
section
variable {K : PySem.W.Frag} {ct : Ct} {H0 : Hp} {W : WX}
def truD (M : List Cn) : D → Option Bool
  | .non => some false
  | .bl b => some b
  | .int i => some (!decide (i = 0))
  | .str x => if x.length ≤ sizeLine then some (!decide ((x.length : Int) = 0)) else none
  | .tup l => some (!l.isEmpty)
  | .ctp l => some (!l.isEmpty)
  | .lst l => some (!l.isEmpty)
  | .clst l => some (!l.isEmpty)
  | .cid k => M[k]?.bind fun c => match c with
    | .lst l => some (!l.isEmpty)
    | .dK l => some (!l.isEmpty)
    | _ => none
  | _ => none
def mTru (m : Mo AI) : Mo Bool := fun s => (m s).bind fun a s1 => match (look s1 a).bind (truD s1.M) with
  | some b => .ok b s1
  | none => .no
theorem emp_len {α β : Type} {l : List α} {m : List β} (h : l.length = m.length) : (!l.isEmpty) = !m.isEmpty := by
  cases l <;> cases m <;> first | rfl | (simp at h)
theorem tru_ok {S : Sh} {s : Stt} {σ : St} {H : Hp} {v : V} {d : D} {b : Bool} (rel : Rel K ct H0 S s σ H) (r : Rp K (U ct.lk H) S.α s.M.length v d) (e : truD s.M d = some b) : TruV K v H b := by
  cases r with
  | non => cases e; rfl
  | bl b => cases e; rfl
  | int i =>
    cases e
    show (!decide (i = 0)) = (i != 0)
    by_cases q : i = 0 <;> simp [q]
  | str x =>
    have e1 : (if x.length ≤ sizeLine then some (!decide ((x.length : Int) = 0)) else none) = some b := e
    by_cases h : x.length ≤ sizeLine
    · rw [if_pos h] at e1
      cases e1
      refine ⟨h, ?_⟩
      by_cases q : (x.length : Int) = 0
      · rw [decide_eq_true q, q]; rfl
      · rw [decide_eq_false q]; exact (bne_iff_ne.mpr q).symm
    · rw [if_neg h] at e1; cases e1
  | tup h r => cases e; exact .inr (.inl ⟨_, .of (uP' h), (emp_len r.length).symm⟩)
  | ctp h r => cases e; exact .inr (.inl ⟨_, uSqT h, (emp_len r.length).symm⟩)
  | lst h r => cases e; exact .inl ⟨_, .of (uL' h), (emp_len r.length).symm⟩
  | clst h r => cases e; exact .inl ⟨_, uSqL h, (emp_len r.length).symm⟩
  | dK h e1 r => cases e
  | dT h e1 r => cases e
  | ty m => cases e
  | @cid k h =>
    obtain ⟨c, q, e1⟩ := Option.bind_eq_some_iff.mp e
    have hh := (rel.ids k c q).2
    cases c with
    | lst l => cases e1; obtain ⟨vs, h1, h2⟩ := hh; exact .inl ⟨_, .of h1, (emp_len h2.length).symm⟩
    | dK l => cases e1; obtain ⟨vs, h1, h3, h2⟩ := hh; exact .inr (.inr ⟨_, h1, (emp_len (RpK.of h3 h2).len).symm⟩)
    | dT l => cases e1
    | obj c fs => cases e1
theorem et_tru {ta : TE} {m : Mo AI} (h : Ei K ct H0 W ta m) : Et K ct H0 W (tTruZ K ta) (mTru m) := fun S s σ H Q rel p =>
  h S s σ H _ rel (Pst.bind bB p fun S1 s1 H1 x a st1 rel1 i1 p1 => by
    split at p1
    · rename_i b e
      obtain ⟨d, e1, e2⟩ := Option.bind_eq_some_iff.mp e
      exact ⟨b, tru_ok rel1 (look_ok rel1 i1 e1) e2, p1 S1 b H1 .refl rel1 rfl⟩
    · exact False.elim p1)
/-- a truth value -/
def blOf : AI → Option Bool
  | .val (.bl b) => some b
  | _ => none
def mBl (m : Mo AI) : Mo Bool := fun s => (m s).bind fun a s1 => match blOf a with
  | some b => .ok b s1
  | none => .no
theorem blOf_eq {a : AI} {b : Bool} (e : blOf a = some b) : a = .val (.bl b) := by
  unfold blOf at e
  split at e
  · cases e; rfl
  · cases e
theorem et_tst {ta : TE} {m : Mo AI} (h : Ei K ct H0 W ta m) : Et K ct H0 W (tTest ta) (mBl m) := fun S s σ H Q rel p =>
  h S s σ H _ rel (Pst.bind bB p fun S1 s1 H1 x a st1 rel1 i1 p1 => by
    split at p1
    · rename_i b e
      cases blOf_eq e
      cases rp_bl i1
      exact ⟨b, rfl, p1 S1 b H1 .refl rel1 rfl⟩
    · exact False.elim p1)
theorem et_B {ta : TE} {m : Mo AI} (h : Ei K ct H0 W ta m) : Et K ct H0 W (tB ta) (mBl m) := et_tst h
def mAnd (m1 m2 : Mo Bool) : Mo Bool := fun s => (m1 s).bind fun c s1 => if c = true then m2 s1 else .ok false s1
def mOr (m1 m2 : Mo Bool) : Mo Bool := fun s => (m1 s).bind fun c s1 => if c = true then .ok true s1 else m2 s1
def mNot (m1 : Mo Bool) : Mo Bool := fun s => (m1 s).bind fun c s1 => .ok (!c) s1
theorem et_and {t u : TT} {m1 m2 : Mo Bool} (h1 : Et K ct H0 W t m1) (h2 : Et K ct H0 W u m2) : Et K ct H0 W (tAnd t u) (mAnd m1 m2) := fun S s σ H Q rel p =>
  h1 S s σ H _ rel (Pst.bind bB p fun S1 s1 H1 x a st1 rel1 i1 p1 => by
    cases (show x = a from i1)
    cases x with
    | true => rw [if_pos rfl] at p1 ⊢; exact h2 S1 s1 σ H1 Q rel1 p1
    | false => rw [if_neg Bool.false_ne_true] at p1 ⊢; exact p1 S1 false H1 .refl rel1 rfl)
theorem et_or {t u : TT} {m1 m2 : Mo Bool} (h1 : Et K ct H0 W t m1) (h2 : Et K ct H0 W u m2) : Et K ct H0 W (tOr t u) (mOr m1 m2) := fun S s σ H Q rel p =>
  h1 S s σ H _ rel (Pst.bind bB p fun S1 s1 H1 x a st1 rel1 i1 p1 => by
    cases (show x = a from i1)
    cases x with
    | true => rw [if_pos rfl] at p1 ⊢; exact p1 S1 true H1 .refl rel1 rfl
    | false => rw [if_neg Bool.false_ne_true] at p1 ⊢; exact h2 S1 s1 σ H1 Q rel1 p1)
theorem et_not {t : TT} {m1 : Mo Bool} (h1 : Et K ct H0 W t m1) : Et K ct H0 W (tNot t) (mNot m1) := fun S s σ H Q rel p =>
  h1 S s σ H _ rel (Pst.bind bB p fun S1 s1 H1 x a st1 rel1 i1 p1 => by
    cases (show x = a from i1)
    exact p1 S1 (!x) H1 .refl rel1 rfl)
/-- and, or, not as values, of truth values -/
def mAndV (m1 m2 : Mo AI) : Mo AI := fun s => (m1 s).bind fun a s1 => match blOf a with
  | some true => m2 s1
  | some false => .ok (.val (.bl false)) s1
  | none => .no
def mOrV (m1 m2 : Mo AI) : Mo AI := fun s => (m1 s).bind fun a s1 => match blOf a with
  | some true => .ok (.val (.bl true)) s1
  | some false => m2 s1
  | none => .no
def mNotV (m1 : Mo AI) : Mo AI := fun s => (m1 s).bind fun a s1 => match blOf a with
  | some b => .ok (.val (.bl (!b))) s1
  | none => .no
theorem ei_andV {ta tb : TE} {m1 m2 : Mo AI} (h1 : Ei K ct H0 W ta m1) (h2 : Ei K ct H0 W tb m2) : Ei K ct H0 W (tAndV ta tb) (mAndV m1 m2) := fun S s σ H Q rel p =>
  h1 S s σ H _ rel (Pst.bind bI p fun S1 s1 H1 x a st1 rel1 i1 p1 => by
    split at p1
    · rename_i e; cases blOf_eq e; cases rp_bl i1
      exact ⟨true, rfl, by rw [if_pos rfl]; exact h2 S1 s1 σ H1 Q rel1 p1⟩
    · rename_i e; cases blOf_eq e; cases rp_bl i1
      exact ⟨false, rfl, by rw [if_neg Bool.false_ne_true]; exact p1.val rel1 (.bl _)⟩
    · exact False.elim p1)
theorem ei_orV {ta tb : TE} {m1 m2 : Mo AI} (h1 : Ei K ct H0 W ta m1) (h2 : Ei K ct H0 W tb m2) : Ei K ct H0 W (tOrV ta tb) (mOrV m1 m2) := fun S s σ H Q rel p =>
  h1 S s σ H _ rel (Pst.bind bI p fun S1 s1 H1 x a st1 rel1 i1 p1 => by
    split at p1
    · rename_i e; cases blOf_eq e; cases rp_bl i1
      exact ⟨true, rfl, by rw [if_pos rfl]; exact p1.val rel1 (.bl _)⟩
    · rename_i e; cases blOf_eq e; cases rp_bl i1
      exact ⟨false, rfl, by rw [if_neg Bool.false_ne_true]; exact h2 S1 s1 σ H1 Q rel1 p1⟩
    · exact False.elim p1)
theorem ei_notV {ta : TE} {m1 : Mo AI} (h1 : Ei K ct H0 W ta m1) : Ei K ct H0 W (tNotV ta) (mNotV m1) := fun S s σ H Q rel p =>
  h1 S s σ H _ rel (Pst.bind bI p fun S1 s1 H1 x a st1 rel1 i1 p1 => by
    split at p1
    · rename_i b e; cases blOf_eq e; cases rp_bl i1
      exact ⟨b, rfl, p1.val rel1 (.bl _)⟩
    · exact False.elim p1)
def mIf {α : Type} (c : Mo Bool) (m1 m2 : Mo α) : Mo α := fun s => (c s).bind fun b s1 => if b = true then m1 s1 else m2 s1
theorem ei_if {c : TT} {ta tb : TE} {mc : Mo Bool} {m1 m2 : Mo AI} (hc : Et K ct H0 W c mc) (h1 : Ei K ct H0 W ta m1) (h2 : Ei K ct H0 W tb m2) : Ei K ct H0 W (tIf c ta tb) (mIf mc m1 m2) := fun S s σ H Q rel p =>
  hc S s σ H _ rel (Pst.bind bI p fun S1 s1 H1 x a st1 rel1 i1 p1 => by
    cases (show x = a from i1)
    cases x with
    | true => rw [if_pos rfl] at p1 ⊢; exact h1 S1 s1 σ H1 Q rel1 p1
    | false => rw [if_neg Bool.false_ne_true] at p1 ⊢; exact h2 S1 s1 σ H1 Q rel1 p1)
/-- a < b < c: nothing is changed in between -/
def mChain (f f' : Stt → AI → AI → Ro AI) (m1 m2 m3 : Mo AI) : Mo AI := fun s => (m1 s).bind fun a s1 => (m2 s1).bind fun b s2 => (f s2 a b).bind fun z s3 => match blOf z with
  | some true => (m3 s3).bind fun c s4 => f' s4 b c
  | some false => .ok (.val (.bl false)) s3
  | none => .no
theorem ei_chain {r r' : R2} {f f' : Stt → AI → AI → Ro AI} {ta tb tc : TE} {m1 m2 m3 : Mo AI} (ho : J2 K ct H0 r f) (ho' : J2 K ct H0 r' f') (h1 : Ei K ct H0 W ta m1) (h2 : Ei K ct H0 W tb m2) (h3 : Ei K ct H0 W tc m3) : Ei K ct H0 W (tChain r r' ta tb tc) (mChain f f' m1 m2 m3) := fun S s σ H Q rel p =>
  h1 S s σ H _ rel (Pst.bind bI p fun S1 s1 H1 x a st1 rel1 i1 p1 => h2 S1 s1 σ H1 _ rel1 (Pst.bind bI p1 fun S2 s2 H2 y b st2 rel2 i2 p2 =>
    ho W S2 s2 σ H2 _ _ x y a b _ rel2 (i1.step st2) i2 (Pst.bind bI p2 fun S3 s3 H3 z c st3 rel3 i3 p3 => by
      split at p3
      · rename_i e; cases blOf_eq e; cases rp_bl i3
        exact ⟨true, rfl, by rw [if_pos rfl]; exact h3 S3 s3 σ H3 _ rel3 (Pst.bind bI p3 fun S4 s4 H4 z' c' st4 rel4 i4 p4 => ho' W S4 s4 σ H4 _ _ y z' b c' Q rel4 ((i2.step st3).step st4) i4 p4)⟩
      · rename_i e; cases blOf_eq e; cases rp_bl i3
        exact ⟨false, rfl, by rw [if_neg Bool.false_ne_true]; exact p3.val rel3 (.bl _)⟩
      · exact False.elim p3)))
end
end Y

namespace Y
open PySem L2 Z
section
variable {K : PySem.W.Frag} {ct : Ct} {H0 : Hp} {W : WX}
/-! ## lists of expressions -/
inductive AsOk (K : PySem.W.Frag) (ct : Ct) (Hs : Hp) (S : Sh) (s : Stt) (σ : St) (H : Hp) : List V → List AI → Prop
  | nil : AsOk K ct Hs S s σ H [] []
  | cons {v : V} {a : AI} {vs : List V} {as : List AI} : ItOk K ct Hs S s σ H v a → AsOk K ct Hs S s σ H vs as → AsOk K ct Hs S s σ H (v :: vs) (a :: as)
def RA (K : PySem.W.Frag) (ct : Ct) : RR (List V) (List AI) := fun H S s σ H' v a => AsOk K ct H S s σ H' v a
theorem bA : Bck (RA K ct) := fun H1 H S s σ H' v a k h => by
  induction (show AsOk K ct H1 S s σ H' v a from h) with
  | nil => exact AsOk.nil
  | cons i _ ih => exact AsOk.cons (bI _ _ _ _ _ _ _ _ k i) (ih ‹_›)
abbrev EaL (K : PySem.W.Frag) (ct : Ct) (H0 : Hp) (W : WX) (t : TA) (m : Mo (List AI)) : Prop := Jd K ct H0 (RA K ct) W t m
def aNil : Mo (List AI) := fun s => .ok [] s
def aCons (m : Mo AI) (r : Mo (List AI)) : Mo (List AI) := fun s => (m s).bind fun a s1 => (r s1).bind fun as s2 => .ok (a :: as) s2
theorem ea_nil : EaL K ct H0 W tNil aNil := fun S s σ H Q rel p => p S [] H .refl rel .nil
theorem ea_cons {ta : TE} {tr : TA} {m : Mo AI} {r : Mo (List AI)} (h1 : Ei K ct H0 W ta m) (h2 : EaL K ct H0 W tr r) : EaL K ct H0 W (tCons ta tr) (aCons m r) := fun S s σ H Q rel p =>
  h1 S s σ H _ rel (by
    unfold aCons at p
    cases q : m s with
    | no => rw [q] at p; exact p
    | er x s' => rw [q] at p; exact p
    | ok a s1 =>
      rw [q] at p
      have p : Pst K ct H0 (RA K ct) W S s σ H Q ((r s1).bind fun as s2 => .ok (a :: as) s2) := p
      intro S1 v H1 st1 rel1 i1
      refine h2 S1 s1 σ H1 _ rel1 ?_
      cases q2 : r s1 with
      | no => rw [q2] at p; exact p
      | er x s' => rw [q2] at p; exact fun S' H' dd st rel q => p S' H' dd (st1.trans st) rel q
      | ok as s2 =>
        rw [q2] at p
        exact fun S2 vs H2 st2 rel2 i2 => p S2 (v :: vs) H2 (st1.trans st2) rel2 (.cons (i1.step st2) (bA _ _ _ _ _ _ _ _ st1.dom i2)))
def vNil : Mo (List D) := fun s => .ok [] s
def vCons (m : Mo AI) (r : Mo (List D)) : Mo (List D) := fun s => (mV m s).bind fun a s1 => (r s1).bind fun as s2 => .ok (a :: as) s2
theorem ev_nil : EvL K ct H0 W tNil vNil := fun S s σ H Q rel p => p S [] H .refl rel .nil
theorem ev_cons {ta : TE} {tr : TA} {m : Mo AI} {r : Mo (List D)} (h1 : Ei K ct H0 W ta m) (h2 : EvL K ct H0 W tr r) : EvL K ct H0 W (tCons ta tr) (vCons m r) := fun S s σ H Q rel p =>
  ev_of h1 S s σ H _ rel (Pst.bind bVL p fun S1 s1 H1 x a st1 rel1 i1 p1 => h2 S1 s1 σ H1 _ rel1 (Pst.bind bVL p1 fun S2 s2 H2 y b st2 rel2 i2 p2 => p2 S2 (x :: y) H2 .refl rel2 (.cons (Rp.step st2 i1) i2)))
/-! ## displays, slices -/
def mLst (m : Mo (List D)) : Mo AI := fun s => (m s).bind fun l s1 => if l.length ≤ sizeLine then .ok (.new (.lst l)) s1 else .no
def mTup (m : Mo (List D)) : Mo AI := fun s => (m s).bind fun l s1 => if l.length ≤ sizeLine then .ok (.val (.tup l)) s1 else .no
theorem ei_lst {t : TA} {m : Mo (List D)} (h : EvL K ct H0 W t m) : Ei K ct H0 W (tLst t) (mLst m) := fun S s σ H Q rel p =>
  h S s σ H _ rel (Pst.bind bI p fun S1 s1 H1 x a st1 rel1 i1 p1 => by
    split at p1
    · rename_i hz
      exact ⟨by rw [RpL.length i1]; exact hz, fun q hq => p1.newL rel1 hq i1⟩
    · exact False.elim p1)
theorem ei_tup {t : TA} {m : Mo (List D)} (h : EvL K ct H0 W t m) : Ei K ct H0 W (tTup t) (mTup m) := fun S s σ H Q rel p =>
  h S s σ H _ rel (Pst.bind bI p fun S1 s1 H1 x a st1 rel1 i1 p1 => by
    split at p1
    · rename_i hz
      exact ⟨by rw [RpL.length i1]; exact hz, fun q hq => p1.newT rel1 hq i1⟩
    · exact False.elim p1)
def oNo : Mo (Option Int) := fun s => .ok none s
def oSm (m : Mo AI) : Mo (Option Int) := fun s => (m s).bind fun a s1 => match a with
  | .val (.int i) => .ok (some i) s1
  | _ => .no
theorem eo_no : Eo K ct H0 W tNoPart oNo := fun S s σ H Q rel p => p S none H .refl rel rfl
theorem eo_sm {t : TE} {m : Mo AI} (h : Ei K ct H0 W t m) : Eo K ct H0 W (tPart t) (oSm m) := fun S s σ H Q rel p =>
  h S s σ H _ rel (Pst.bind bO p fun S1 s1 H1 x a st1 rel1 i1 p1 => by
    split at p1
    · rename_i i
      cases rp_int i1
      exact ⟨i, rfl, p1 S1 (some i) H1 .refl rel1 rfl⟩
    · exact False.elim p1)
def cutL {β : Type} (xs : List β) (lo hi : Option Int) : List β := (xs.drop (HT.sIx xs.length 0 lo)).take (HT.sIx xs.length xs.length hi - HT.sIx xs.length 0 lo)
def fSl (s : Stt) (a : AI) (lo hi : Option Int) : Ro AI := match a with
  | .val (.str x) => if x.length ≤ sizeLine then .ok (.val (.str (cutS x lo hi))) s else .no
  | a => match viewL s a with
    | some l => .ok (.new (.lst (cutL l lo hi))) s
    | none => .no
def mSl (m : Mo AI) (ml mh : Mo (Option Int)) : Mo AI := fun s => (m s).bind fun a s1 => (ml s1).bind fun l s2 => (mh s2).bind fun h s3 => fSl s3 a l h
theorem ei_sl {te : TE} {tl th : TO} {m : Mo AI} {ml mh : Mo (Option Int)} (h1 : Ei K ct H0 W te m) (h2 : Eo K ct H0 W tl ml) (h3 : Eo K ct H0 W th mh) : Ei K ct H0 W (tSl (rSlZ K) te tl th) (mSl m ml mh) := fun S s σ H Q rel p =>
  h1 S s σ H _ rel (Pst.bind bI p fun S1 s1 H1 x a st1 rel1 i1 p1 => h2 S1 s1 σ H1 _ rel1 (Pst.bind bI p1 fun S2 s2 H2 lo lo' st2 rel2 i2 p2 => h3 S2 s2 σ H2 _ rel2 (Pst.bind bI p2 fun S3 s3 H3 hi hi' st3 rel3 i3 p3 => by
    cases (show lo = lo' from i2); cases (show hi = hi' from i3)
    have i1' := (i1.step st2).step st3
    unfold fSl at p3
    split at p3
    · rename_i z
      cases rp_str i1'
      split at p3
      · rename_i hz
        exact .inr ⟨z, rfl, hz, p3.val rel3 (.str _)⟩
      · exact False.elim p3
    · split at p3
      · rename_i l e
        obtain ⟨q, vs, rfl, k1, k2⟩ := viewL_ok rel3 i1' e
        refine .inl ⟨q, vs, rfl, k1, fun r hr => p3.newL rel3 hr ?_⟩
        show RpL _ _ _ _ ((vs.drop (HT.sIx vs.length 0 lo)).take (HT.sIx vs.length vs.length hi - HT.sIx vs.length 0 lo)) _
        rw [k2.length]
        exact (k2.drop _).take _
      · exact False.elim p3)))
/-! ## builtins that read -/
def JB (K : PySem.W.Frag) (ct : Ct) (H0 : Hp) (r : List V → Hp → VK → Prop) (f : Stt → List AI → Ro AI) : Prop := ∀ W S s σ H Hs vs as Q, Rel K ct H0 S s σ H → AsOk K ct Hs S s σ H vs as → Pst K ct H0 (RI K ct) W S s σ H Q (f s as) → r vs H Q
def mCB (f : Stt → List AI → Ro AI) (m : Mo (List AI)) : Mo AI := fun s => (m s).bind fun as s1 => f s1 as
theorem ei_cb {r : List V → Hp → VK → Prop} {f : Stt → List AI → Ro AI} {t : TA} {m : Mo (List AI)} (hr : JB K ct H0 r f) (h : EaL K ct H0 W t m) : Ei K ct H0 W (tCB r t) (mCB f m) := fun S s σ H Q rel p =>
  h S s σ H _ rel (Pst.bind bI p fun S1 s1 H1 x a st1 rel1 i1 p1 => hr W S1 s1 σ H1 _ x a Q rel1 i1 p1)
def lenD (M : List Cn) : D → Option Nat
  | .str x => if x.length ≤ sizeLine then some x.length else none
  | .tup l => some l.length
  | .ctp l => some l.length
  | .lst l => some l.length
  | .clst l => some l.length
  | .dK l => some l.length
  | .cid k => M[k]?.bind fun c => match c with
    | .lst l => some l.length
    | .dK l => some l.length
    | _ => none
  | _ => none
def fLen (s : Stt) (as : List AI) : Ro AI := match as with
  | [a] => match (look s a).bind (lenD s.M) with
    | some n => .ok (.val (.int (n : Int))) s
    | none => .no
  | _ => .no
theorem as1 {Hs : Hp} {S : Sh} {s : Stt} {σ : St} {H : Hp} {vs : List V} {a : AI} (h : AsOk K ct Hs S s σ H vs [a]) : ∃ v, vs = [v] ∧ ItOk K ct Hs S s σ H v a := by
  cases h with | cons i r => cases r; exact ⟨_, rfl, i⟩
theorem as2 {Hs : Hp} {S : Sh} {s : Stt} {σ : St} {H : Hp} {vs : List V} {a b : AI} (h : AsOk K ct Hs S s σ H vs [a, b]) : ∃ v w, vs = [v, w] ∧ ItOk K ct Hs S s σ H v a ∧ ItOk K ct Hs S s σ H w b := by
  cases h with | cons i r => cases r with | cons j r => cases r; exact ⟨_, _, rfl, i, j⟩
theorem len_ok {S : Sh} {s : Stt} {σ : St} {H : Hp} {v : V} {d : D} {n : Nat} {Q : VK} (rel : Rel K ct H0 S s σ H) (r : Rp K (U ct.lk H) S.α s.M.length v d) (e : lenD s.M d = some n) (q : Q (.int n) H) : rLenY K [v] H Q := by
  cases r with
  | str x =>
    have e1 : (if x.length ≤ sizeLine then some x.length else none) = some n := e
    by_cases h : x.length ≤ sizeLine
    · rw [if_pos h] at e1
      cases e1
      exact .inl ⟨_, _, rfl, ⟨h, rfl⟩, q⟩
    · rw [if_neg h] at e1; cases e1
  | tup h r => cases e; exact .inl ⟨_, _, rfl, .inr ⟨_, .of (uP' h), r.length.symm⟩, q⟩
  | ctp h r => cases e; exact .inl ⟨_, _, rfl, .inr ⟨_, uSqT h, r.length.symm⟩, q⟩
  | lst h r => cases e; exact .inl ⟨_, _, rfl, .inl ⟨_, .of (uL' h), r.length.symm⟩, q⟩
  | clst h r => cases e; exact .inl ⟨_, _, rfl, .inl ⟨_, uSqL h, r.length.symm⟩, q⟩
  | dK h e1 r => cases e; exact .inr ⟨_, _, rfl, uK' h, by rw [(RpK.of e1 r).len]; exact q⟩
  | non => cases e
  | bl _ => cases e
  | int _ => cases e
  | dT h e1 r => cases e
  | ty m => cases e
  | @cid k h =>
    obtain ⟨c, qc, e1⟩ := Option.bind_eq_some_iff.mp e
    have hh := (rel.ids k c qc).2
    cases c with
    | lst l => cases e1; obtain ⟨vs, h1, h2⟩ := hh; exact .inl ⟨_, _, rfl, .inl ⟨_, .of h1, h2.length.symm⟩, q⟩
    | dK l => cases e1; obtain ⟨vs, h1, h3, h2⟩ := hh; exact .inr ⟨_, _, rfl, .inl h1, by rw [(RpK.of h3 h2).len]; exact q⟩
    | dT l => cases e1
    | obj c fs => cases e1
theorem jb_len : JB K ct H0 (rLenY K) fLen := fun W S s σ H Hs vs as Q rel ia p => by
  unfold fLen at p
  split at p
  · rename_i a
    obtain ⟨v, rfl, i⟩ := as1 ia
    split at p
    · rename_i n e
      obtain ⟨d, e1, e2⟩ := Option.bind_eq_some_iff.mp e
      exact len_ok rel (look_ok rel i e1) e2 (p.val rel (.int _))
    · exact False.elim p
  · exact False.elim p
/-- a list of whole numbers, of truth values -/
def intsD : List D → Option (List Int)
  | [] => some []
  | .int i :: l => (intsD l).map (i :: ·)
  | _ :: _ => none
def blsD : List D → Option (List Bool)
  | [] => some []
  | .bl i :: l => (blsD l).map (i :: ·)
  | _ :: _ => none
section
variable {G : Hp} {α : Nat → Addr} {n : Nat}
theorem ints_rp : ∀ {l : List D} {vs : List V} {ns : List Int}, RpL K G α n vs l → intsD l = some ns → vs = ns.map V.int
  | [], _, _, .nil, e => by cases e; rfl
  | .int i :: l, _, ns, .cons h r, e => by
    obtain ⟨ms, q, rfl⟩ := Option.map_eq_some_iff.mp (show (intsD l).map (i :: ·) = some ns from e)
    rw [rp_int h, ints_rp r q]; rfl
  | .non :: _, _, _, _, e => by cases e
  | .bl _ :: _, _, _, _, e => by cases e
  | .str _ :: _, _, _, _, e => by cases e
  | .tup _ :: _, _, _, _, e => by cases e
  | .ctp _ :: _, _, _, _, e => by cases e
  | .lst _ :: _, _, _, _, e => by cases e
  | .clst _ :: _, _, _, _, e => by cases e
  | .dK _ :: _, _, _, _, e => by cases e
  | .dT _ :: _, _, _, _, e => by cases e
  | .cid _ :: _, _, _, _, e => by cases e
  | .ty _ :: _, _, _, _, e => by cases e
theorem bls_rp : ∀ {l : List D} {vs : List V} {ns : List Bool}, RpL K G α n vs l → blsD l = some ns → vs = ns.map V.bl
  | [], _, _, .nil, e => by cases e; rfl
  | .bl i :: l, _, ns, .cons h r, e => by
    obtain ⟨ms, q, rfl⟩ := Option.map_eq_some_iff.mp (show (blsD l).map (i :: ·) = some ns from e)
    rw [rp_bl h, bls_rp r q]; rfl
  | .non :: _, _, _, _, e => by cases e
  | .int _ :: _, _, _, _, e => by cases e
  | .str _ :: _, _, _, _, e => by cases e
  | .tup _ :: _, _, _, _, e => by cases e
  | .ctp _ :: _, _, _, _, e => by cases e
  | .lst _ :: _, _, _, _, e => by cases e
  | .clst _ :: _, _, _, _, e => by cases e
  | .dK _ :: _, _, _, _, e => by cases e
  | .dT _ :: _, _, _, _, e => by cases e
  | .cid _ :: _, _, _, _, e => by cases e
  | .ty _ :: _, _, _, _, e => by cases e
end
/-- a builtin of one list of whole numbers, of truth values -/
def fInts (g : List Int → Option D) (s : Stt) (as : List AI) : Ro AI := match as with
  | [a] => match ((viewL s a).bind intsD).bind g with
    | some d => .ok (.val d) s
    | none => .no
  | _ => .no
def fBls (g : List Bool → D) (s : Stt) (as : List AI) : Ro AI := match as with
  | [a] => match (viewL s a).bind blsD with
    | some bs => .ok (.val (g bs)) s
    | none => .no
  | _ => .no
def gSum (ns : List Int) : Option D := some (.int ns.sum)
def gMax : List Int → Option D
  | [] => none
  | n :: ns => some (.int (ns.foldl max n))
def gMin : List Int → Option D
  | [] => none
  | n :: ns => some (.int (ns.foldl min n))
theorem fInts_ok {g : List Int → Option D} {S : Sh} {s : Stt} {σ : St} {H Hs : Hp} {vs : List V} {as : List AI} {Q : VK} (rel : Rel K ct H0 S s σ H) (ia : AsOk K ct Hs S s σ H vs as) (p : Pst K ct H0 (RI K ct) W S s σ H Q (fInts g s as)) :
    ∃ q ns d, vs = [.ref q] ∧ SqL K H q (ns.map V.int) ∧ g ns = some d ∧ Pst K ct H0 (RI K ct) W S s σ H Q (.ok (.val d) s) := by
  unfold fInts at p
  split at p
  · rename_i a
    obtain ⟨v, rfl, i⟩ := as1 ia
    split at p
    · rename_i d e
      obtain ⟨ns, e1, e2⟩ := Option.bind_eq_some_iff.mp e
      obtain ⟨l, e0, e1⟩ := Option.bind_eq_some_iff.mp e1
      obtain ⟨q, us, rfl, k1, k2⟩ := viewL_ok rel i e0
      rw [ints_rp k2 e1] at k1
      exact ⟨q, ns, d, rfl, k1, e2, p⟩
    · exact False.elim p
  · exact False.elim p
theorem jb_sum : JB K ct H0 (rSum K) (fInts gSum) := fun W S s σ H Hs vs as Q rel ia p => by
  obtain ⟨q, ns, d, rfl, h, e, p⟩ := fInts_ok rel ia p
  cases e
  exact ⟨q, ns, rfl, h, p.val rel (.int _)⟩
theorem fold_max (n : Int) (ns : List Int) : ns.foldl max n ∈ n :: ns ∧ ∀ y ∈ n :: ns, y ≤ ns.foldl max n := by
  induction ns generalizing n with
  | nil => exact ⟨by simp, fun y hy => by simp at hy; rw [hy]; exact Int.le_refl _⟩
  | cons m ms ih =>
    obtain ⟨h1, h2⟩ := ih (max n m)
    have hm := h2 (max n m) (by simp)
    refine ⟨?_, fun y hy => ?_⟩
    · show ms.foldl max (max n m) ∈ _
      rcases List.mem_cons.mp h1 with e | e
      · rw [e]
        by_cases l : n ≤ m
        · rw [Int.max_eq_right l]; simp
        · rw [Int.max_eq_left (by omega)]; simp
      · simp [e]
    · show y ≤ ms.foldl max (max n m)
      rcases List.mem_cons.mp hy with rfl | hy
      · omega
      · rcases List.mem_cons.mp hy with rfl | hy
        · omega
        · exact h2 y (by simp [hy])
theorem fold_min (n : Int) (ns : List Int) : ns.foldl min n ∈ n :: ns ∧ ∀ y ∈ n :: ns, ns.foldl min n ≤ y := by
  induction ns generalizing n with
  | nil => exact ⟨by simp, fun y hy => by simp at hy; rw [hy]; exact Int.le_refl _⟩
  | cons m ms ih =>
    obtain ⟨h1, h2⟩ := ih (min n m)
    have hm := h2 (min n m) (by simp)
    refine ⟨?_, fun y hy => ?_⟩
    · show ms.foldl min (min n m) ∈ _
      rcases List.mem_cons.mp h1 with e | e
      · rw [e]
        by_cases l : n ≤ m
        · rw [Int.min_eq_left l]; simp
        · rw [Int.min_eq_right (by omega)]; simp
      · simp [e]
    · show ms.foldl min (min n m) ≤ y
      rcases List.mem_cons.mp hy with rfl | hy
      · omega
      · rcases List.mem_cons.mp hy with rfl | hy
        · omega
        · exact h2 y (by simp [hy])
theorem ext_max {ns : List Int} {a b : Int} (ha : a ∈ ns) (h1 : ∀ y ∈ ns, y ≤ a) (hb : b ∈ ns) (h2 : ∀ y ∈ ns, y ≤ b) : a = b := by
  have := h1 b hb; have := h2 a ha; omega
theorem jb_max : JB K ct H0 (rMax K) (fInts gMax) := fun W S s σ H Hs vs as Q rel ia p => by
  obtain ⟨q, ns, d, rfl, h, e, p⟩ := fInts_ok rel ia p
  cases ns with
  | nil => cases e
  | cons n ns =>
    cases e
    refine ⟨q, n :: ns, rfl, h, by simp, fun m hm k => ?_⟩
    have h2 := fold_max n ns
    have e : m = ns.foldl max n := by have := k _ h2.1; have := h2.2 m hm; omega
    rw [e]; exact p.val rel (.int _)
theorem jb_min : JB K ct H0 (rMin K) (fInts gMin) := fun W S s σ H Hs vs as Q rel ia p => by
  obtain ⟨q, ns, d, rfl, h, e, p⟩ := fInts_ok rel ia p
  cases ns with
  | nil => cases e
  | cons n ns =>
    cases e
    refine ⟨q, n :: ns, rfl, h, by simp, fun m hm k => ?_⟩
    have h2 := fold_min n ns
    have e : m = ns.foldl min n := by have := k _ h2.1; have := h2.2 m hm; omega
    rw [e]; exact p.val rel (.int _)
theorem fBls_ok {g : List Bool → D} {S : Sh} {s : Stt} {σ : St} {H Hs : Hp} {vs : List V} {as : List AI} {Q : VK} (rel : Rel K ct H0 S s σ H) (ia : AsOk K ct Hs S s σ H vs as) (p : Pst K ct H0 (RI K ct) W S s σ H Q (fBls g s as)) :
    ∃ q bs, vs = [.ref q] ∧ SqL K H q (bs.map V.bl) ∧ Pst K ct H0 (RI K ct) W S s σ H Q (.ok (.val (g bs)) s) := by
  unfold fBls at p
  split at p
  · rename_i a
    obtain ⟨v, rfl, i⟩ := as1 ia
    split at p
    · rename_i bs e
      obtain ⟨l, e0, e1⟩ := Option.bind_eq_some_iff.mp e
      obtain ⟨q, us, rfl, k1, k2⟩ := viewL_ok rel i e0
      rw [bls_rp k2 e1] at k1
      exact ⟨q, bs, rfl, k1, p⟩
    · exact False.elim p
  · exact False.elim p
theorem jb_all : JB K ct H0 (rAll K) (fBls fun bs => .bl (bs.all id)) := fun W S s σ H Hs vs as Q rel ia p => by
  obtain ⟨q, ns, rfl, h, p⟩ := fBls_ok rel ia p
  exact ⟨q, ns, rfl, h, p.val rel (.bl _)⟩
theorem jb_any : JB K ct H0 (rAny K) (fBls fun bs => .bl (bs.any id)) := fun W S s σ H Hs vs as Q rel ia p => by
  obtain ⟨q, ns, rfl, h, p⟩ := fBls_ok rel ia p
  exact ⟨q, ns, rfl, h, p.val rel (.bl _)⟩
def fI2 (g : Int → Int → Int) (s : Stt) (as : List AI) : Ro AI := match as with
  | [.val (.int i), .val (.int j)] => .ok (.val (.int (g i j))) s
  | _ => .no
theorem jb_min2 : JB K ct H0 rMin2 (fI2 min) := fun W S s σ H Hs vs as Q rel ia p => by
  unfold fI2 at p
  split at p
  · rename_i i j
    obtain ⟨v, w, rfl, h1, h2⟩ := as2 ia
    cases rp_int h1; cases rp_int h2
    exact z_min2 (p.val rel (.int _))
  · exact False.elim p
theorem jb_max2 : JB K ct H0 rMax2 (fI2 max) := fun W S s σ H Hs vs as Q rel ia p => by
  unfold fI2 at p
  split at p
  · rename_i i j
    obtain ⟨v, w, rfl, h1, h2⟩ := as2 ia
    cases rp_int h1; cases rp_int h2
    exact z_max2 (p.val rel (.int _))
  · exact False.elim p
/-- list(x) -/
def fList (s : Stt) (as : List AI) : Ro AI := match as with
  | [a] => match viewL s a with
    | some l => .ok (.new (.lst l)) s
    | none => match viewT s a with
      | some l => .ok (.new (.lst l)) s
      | none => .no
  | _ => .no
theorem jb_list : JB K ct H0 (rListOf K) fList := fun W S s σ H Hs vs as Q rel ia p => by
  unfold fList at p
  split at p
  · rename_i a
    obtain ⟨v, rfl, i⟩ := as1 ia
    split at p
    · rename_i l e
      obtain ⟨q, us, rfl, k1, k2⟩ := viewL_ok rel i e
      exact ⟨q, us, rfl, .inl k1, fun r hr => p.newL rel hr k2⟩
    · split at p
      · rename_i l e
        obtain ⟨q, us, rfl, k1, k2⟩ := viewT_ok rel i e
        exact ⟨q, us, rfl, .inr k1, fun r hr => p.newL rel hr k2⟩
      · exact False.elim p
  · exact False.elim p
/-- isinstance -/
def kindD (M : List Cn) : D → Option String
  | .non => some "NoneType"
  | .bl _ => some "bool"
  | .int _ => some "int"
  | .str _ => some "str"
  | .tup _ => some "tuple"
  | .lst _ => some "list"
  | .dK _ => some "dict"
  | .cid k => M[k]?.bind fun c => match c with
    | .lst _ => some "list"
    | .dK _ => some "dict"
    | _ => none
  | _ => none
def fIsi (s : Stt) (as : List AI) : Ro AI := match as with
  | [a, .val (.ty m)] => match ((look s a).bind (kindD s.M)).bind fun n => kitB n m with
    | some b => .ok (.val (.bl b)) s
    | none => .no
  | _ => .no
theorem kind_ok {S : Sh} {s : Stt} {σ : St} {H : Hp} {v : V} {d : D} {n : String} (rel : Rel K ct H0 S s σ H) (r : Rp K (U ct.lk H) S.α s.M.length v d) (e : kindD s.M d = some n) : TyX K H v (.type n) := by
  cases r with
  | non => cases e; exact .base .non
  | bl b => cases e; exact .base (.bl b)
  | int i => cases e; exact .base (.int i)
  | str x => cases e; exact .base (.str x)
  | tup h r => cases e; exact .base (.tup (uP' h))
  | lst h r => cases e; exact .base (.lst (uL' h))
  | dK h e1 r =>
    cases e
    rcases uK' h with h | ⟨o, h⟩
    · exact .base (.dK h)
    · exact .fDict h
  | ctp h r => cases e
  | clst h r => cases e
  | dT h e1 r => cases e
  | ty m => cases e
  | @cid k h =>
    obtain ⟨c, qc, e1⟩ := Option.bind_eq_some_iff.mp e
    have hh := (rel.ids k c qc).2
    cases c with
    | lst l => cases e1; obtain ⟨vs, h1, h2⟩ := hh; exact .base (.lst h1)
    | dK l => cases e1; obtain ⟨vs, h1, h3, h2⟩ := hh; exact .base (.dK h1)
    | dT l => cases e1
    | obj c fs => cases e1
theorem jb_isi : JB K ct H0 (rIsi K) fIsi := fun W S s σ H Hs vs as Q rel ia p => by
  unfold fIsi at p
  split at p
  · rename_i a m
    obtain ⟨v, w, rfl, h1, h2⟩ := as2 ia
    split at p
    · rename_i b e
      obtain ⟨n, e1, e2⟩ := Option.bind_eq_some_iff.mp e
      obtain ⟨d, e0, e1⟩ := Option.bind_eq_some_iff.mp e1
      have h2' : Rp K S.G S.α s.M.length w (.ty m) := h2
      cases h2'
      exact z_isi (kind_ok rel (look_ok rel h1 e0) e1) (kit_ty e2) (p.val rel (.bl _))
    · exact False.elim p
  · exact False.elim p
end
theorem kb_NoneType_int : kitB "NoneType" "int" = some false := by decide +kernel
theorem kb_NoneType_bool : kitB "NoneType" "bool" = some false := by decide +kernel
theorem kb_NoneType_list : kitB "NoneType" "list" = some false := by decide +kernel
theorem kb_NoneType_tuple : kitB "NoneType" "tuple" = some false := by decide +kernel
theorem kb_NoneType_str : kitB "NoneType" "str" = some false := by decide +kernel
theorem kb_NoneType_dict : kitB "NoneType" "dict" = some false := by decide +kernel
theorem kb_bool_int : kitB "bool" "int" = some true := by decide +kernel
theorem kb_bool_bool : kitB "bool" "bool" = some true := by decide +kernel
theorem kb_bool_list : kitB "bool" "list" = some false := by decide +kernel
theorem kb_bool_tuple : kitB "bool" "tuple" = some false := by decide +kernel
theorem kb_bool_str : kitB "bool" "str" = some false := by decide +kernel
theorem kb_bool_dict : kitB "bool" "dict" = some false := by decide +kernel
theorem kb_int_int : kitB "int" "int" = some true := by decide +kernel
theorem kb_int_bool : kitB "int" "bool" = some false := by decide +kernel
theorem kb_int_list : kitB "int" "list" = some false := by decide +kernel
theorem kb_int_tuple : kitB "int" "tuple" = some false := by decide +kernel
theorem kb_int_str : kitB "int" "str" = some false := by decide +kernel
theorem kb_int_dict : kitB "int" "dict" = some false := by decide +kernel
theorem kb_str_int : kitB "str" "int" = some false := by decide +kernel
theorem kb_str_bool : kitB "str" "bool" = some false := by decide +kernel
theorem kb_str_list : kitB "str" "list" = some false := by decide +kernel
theorem kb_str_tuple : kitB "str" "tuple" = some false := by decide +kernel
theorem kb_str_str : kitB "str" "str" = some true := by decide +kernel
theorem kb_str_dict : kitB "str" "dict" = some false := by decide +kernel
theorem kb_tuple_int : kitB "tuple" "int" = some false := by decide +kernel
theorem kb_tuple_bool : kitB "tuple" "bool" = some false := by decide +kernel
theorem kb_tuple_list : kitB "tuple" "list" = some false := by decide +kernel
theorem kb_tuple_tuple : kitB "tuple" "tuple" = some true := by decide +kernel
theorem kb_tuple_str : kitB "tuple" "str" = some false := by decide +kernel
theorem kb_tuple_dict : kitB "tuple" "dict" = some false := by decide +kernel
theorem kb_list_int : kitB "list" "int" = some false := by decide +kernel
theorem kb_list_bool : kitB "list" "bool" = some false := by decide +kernel
theorem kb_list_list : kitB "list" "list" = some true := by decide +kernel
theorem kb_list_tuple : kitB "list" "tuple" = some false := by decide +kernel
theorem kb_list_str : kitB "list" "str" = some false := by decide +kernel
theorem kb_list_dict : kitB "list" "dict" = some false := by decide +kernel
theorem kb_dict_int : kitB "dict" "int" = some false := by decide +kernel
theorem kb_dict_bool : kitB "dict" "bool" = some false := by decide +kernel
theorem kb_dict_list : kitB "dict" "list" = some false := by decide +kernel
theorem kb_dict_tuple : kitB "dict" "tuple" = some false := by decide +kernel
theorem kb_dict_str : kitB "dict" "str" = some false := by decide +kernel
theorem kb_dict_dict : kitB "dict" "dict" = some true := by decide +kernel
section
variable {K : PySem.W.Frag} {ct : Ct} {H0 : Hp} {W : WX}
/-! ## in, not in -/
def inOf (s : Stt) (a b : AI) : Option Bool := match a, b with
  | .val (.str i), .val (.str j) => some (!(Builtin.Str.occurrences j i 0 j.length 1).isEmpty)
  | a, b => match viewD s b with
    | some l => match a with
      | .val (.int i) => some (vl l (.inl i)).isSome
      | .val (.str x) => some (vl l (.inr x)).isSome
      | _ => none
    | none => match pyOf s a, pyOf s b with
      | some d, some (.list ds) => if SeqAt.shaped d && SeqAt.shaped (.list ds) then some (ds.any fun z => PyData.eqv z d) else none
      | _, _ => none
def fIn : Stt → AI → AI → Ro AI := fun s a b => match inOf s a b with
  | some k => .ok (.val (.bl k)) s
  | none => .no
def fNin : Stt → AI → AI → Ro AI := fun s a b => match inOf s a b with
  | some k => .ok (.val (.bl (!k))) s
  | none => .no
theorem viewD_ok {S : Sh} {s : Stt} {σ : St} {H Hs : Hp} {v : V} {a : AI} {l : List (Key × D)} (r : Rel K ct H0 S s σ H) (i : ItOk K ct Hs S s σ H v a) (e : viewD s a = some l) : ∃ p kvs, v = .ref p ∧ Rd H p (.dK kvs) ∧ RpK K S.G S.α s.M.length kvs l := by
  have frz : ∀ {u : V} {d : D}, Rp K S.G S.α s.M.length u d → dictOf s.M d = some l → ∃ p kvs, u = .ref p ∧ Rd H p (.dK kvs) ∧ RpK K S.G S.α s.M.length kvs l := fun {u d} h e => by
    cases d with
    | dK l' => cases e; cases h with | dK h1 h3 h2 => exact ⟨_, _, rfl, uK' (r.sub _ _ h1), .of h3 h2⟩
    | cid k =>
      cases h
      obtain ⟨c, q, e1⟩ := Option.bind_eq_some_iff.mp (show s.M[k]?.bind Cn.aK = some l from e)
      cases c with
      | dK l' =>
        cases e1
        obtain ⟨vs, h1, h3, h2⟩ := (r.ids k _ q).2
        exact ⟨_, vs, rfl, .inl h1, .of h3 h2⟩
      | _ => cases e1
    | _ => cases e
  have own : ∀ {p : Addr} {c : Cn}, CnOk K ct S s.M.length H p c → dictOf s.M c.toD = some l → ∃ q kvs, V.ref p = .ref q ∧ Rd H q (.dK kvs) ∧ RpK K S.G S.α s.M.length kvs l := fun {p c} h e => by
    cases c with
    | dK l' => cases e; obtain ⟨vs, h1, h3, h2⟩ := h; exact ⟨p, vs, rfl, .inl h1, .of h3 h2⟩
    | lst l' => cases e
    | dT l' => cases e
    | obj _ _ => cases e
  unfold viewD at e
  cases a with
  | val d => exact frz i e
  | new c =>
    obtain ⟨p, rfl, _, _, _, hc, h5⟩ := i
    exact own h5 e
  | slot j =>
    obtain ⟨d, q0, e⟩ := Option.bind_eq_some_iff.mp e
    obtain ⟨en, q1, rfl⟩ := Option.map_eq_some_iff.mp q0
    have q := entAt_eq q1
    have hi : σ[j]? = some (some v) := i
    have hh := r.slot j en q
    cases en with
    | fz d =>
      obtain ⟨v', h1, h2⟩ := hh
      rw [hi] at h1; cases h1
      exact frz h2 e
    | xn x => exact (entAt_xn q1).elim
    | ow c =>
      obtain ⟨p, h1, _, _, hc, h5⟩ := hh
      rw [hi] at h1; cases h1
      exact own h5 e
theorem dget_ok {S : Sh} {n : Nat} {H : Hp} {p : Addr} {kvs : List (Key × V)} {l : List (Key × D)} {k : Key} (h : Rd H p (.dK kvs)) (r : RpK K S.G S.α n kvs l) :
    (vl l k = none ∧ DGet H p (kV k) none) ∨ ∃ v d, vl l k = some d ∧ DGet H p (kV k) (some v) ∧ Rp K S.G S.α n v d := by
  have g : DGet H p (kV k) (valV kvs k) := .inl ⟨kvs, k, h, rfl, rfl⟩
  rcases r.get (k := k) with ⟨h1, h2⟩ | ⟨v, d, h1, h2, h3⟩
  · rw [h2] at g; exact .inl ⟨h1, g⟩
  · rw [h2] at g; exact .inr ⟨v, d, h1, g, h3⟩
theorem in_ok {S : Sh} {s : Stt} {σ : St} {H Hs Hs' : Hp} {v w : V} {a b : AI} {k : Bool} {Q : VK} (g : Bool → Bool) (rel : Rel K ct H0 S s σ H) (i : ItOk K ct Hs S s σ H v a) (j : ItOk K ct Hs' S s σ H w b) (e : inOf s a b = some k) (q : Q (.bl (g k)) H) :
    (∃ d ds, Dp K H v d ∧ Dp K H w (.list ds) ∧ SeqAt.shaped d = true ∧ SeqAt.shaped (.list ds) = true ∧ Q (.bl (g (ds.any fun z => PyData.eqv z d))) H) ∨ rSIn g v w H Q ∨ rDIn g v w H Q := by
  unfold inOf at e
  split at e
  · rename_i x y
    cases rp_str i; cases rp_str j; cases e
    exact .inr (.inl ⟨x, y, rfl, rfl, q⟩)
  · split at e
    · rename_i l e1
      obtain ⟨p, kvs, rfl, h1, h2⟩ := viewD_ok rel j e1
      split at e
      · rename_i x _
        cases rp_int i; cases e
        rcases dget_ok (k := Sum.inl x) h1 h2 with ⟨h3, h4⟩ | ⟨v, d, h3, h4, h5⟩
        · rw [h3] at q; exact .inr (.inr ⟨p, _, rfl, h4, q⟩)
        · rw [h3] at q; exact .inr (.inr ⟨p, _, rfl, h4, q⟩)
      · rename_i x _
        cases rp_str i; cases e
        rcases dget_ok (k := Sum.inr x) h1 h2 with ⟨h3, h4⟩ | ⟨v, d, h3, h4, h5⟩
        · rw [h3] at q; exact .inr (.inr ⟨p, _, rfl, h4, q⟩)
        · rw [h3] at q; exact .inr (.inr ⟨p, _, rfl, h4, q⟩)
      · cases e
    · split at e
      · rename_i d ds e1 e2
        split at e
        · rename_i h
          rw [Bool.and_eq_true] at h
          cases e
          exact .inl ⟨d, ds, pyOf_ok rel i e1, pyOf_ok rel j e2, h.1, h.2, q⟩
        · cases e
      · cases e
theorem j_in : J2 K ct H0 (rInY K) fIn := fun W S s σ H Hs Hs' x y a b Q rel ia ib p => by
  unfold fIn at p
  split at p
  · rename_i k e
    rcases in_ok id rel ia ib e (p.val rel (.bl _)) with h | h | h
    · exact .inl (.inl (.inl h))
    · exact .inl (.inr h)
    · exact .inr h
  · exact False.elim p
theorem j_nin : J2 K ct H0 (rNinY K) fNin := fun W S s σ H Hs Hs' x y a b Q rel ia ib p => by
  unfold fNin at p
  split at p
  · rename_i k e
    rcases in_ok not rel ia ib e (p.val rel (.bl _)) with h | h | h
    · exact .inl (.inl (.inl h))
    · exact .inl (.inr h)
    · exact .inr h
  · exact False.elim p
/-- an item of a dict, too -/
def fIxY : Stt → AI → AI → Ro AI := fun s a b => match viewD s a with
  | some l => match b with
    | .val (.int i) => match vl l (.inl i) with
      | some d => .ok (.val d) s
      | none => .no
    | .val (.str x) => match vl l (.inr x) with
      | some d => .ok (.val d) s
      | none => .no
    | _ => .no
  | none => fIx s a b
theorem j_ixY : J2 K ct H0 (rIxY K) fIxY := fun W S s σ H Hs Hs' x y a b Q rel ia ib p => by
  unfold fIxY at p
  split at p
  · rename_i l e1
    obtain ⟨q, kvs, rfl, h1, h2⟩ := viewD_ok rel ia e1
    split at p
    · rename_i i
      cases rp_int ib
      split at p
      · rename_i d e
        rcases dget_ok (k := Sum.inl i) h1 h2 with ⟨h3, h4⟩ | ⟨v, d', h3, h4, h5⟩
        · rw [h3] at e; cases e
        · rw [h3] at e; cases e
          exact .inr ⟨q, v, rfl, h4, p.val rel h5⟩
      · exact False.elim p
    · rename_i i
      cases rp_str ib
      split at p
      · rename_i d e
        rcases dget_ok (k := Sum.inr i) h1 h2 with ⟨h3, h4⟩ | ⟨v, d', h3, h4, h5⟩
        · rw [h3] at e; cases e
        · rw [h3] at e; cases e
          exact .inr ⟨q, v, rfl, h4, p.val rel h5⟩
      · exact False.elim p
    · exact False.elim p
  · exact .inl (j_ix W S s σ H Hs Hs' x y a b Q rel ia ib p)
end
end Y

namespace Y
open PySem L2 Z
section
variable {K : PySem.W.Frag} {ct : Ct} {H0 : Hp} {W : WX} {S : Sh} {s : Stt} {σ : St} {H : Hp}
/-! ## things that are changed -/
def Ent.own : Ent → Option Cn
  | .ow c => some c
  | .fz _ => none
  | .xn _ => none
def getC (s : Stt) : AI → Option Cn
  | .slot i => (entAt s i).bind Ent.own
  | .val (.cid k) => s.M[k]?
  | _ => none
def setC (s : Stt) (a : AI) (c : Cn) : Stt := match a with
  | .slot i => ⟨s.env.set i (some (.ow c)), s.M⟩
  | .val (.cid k) => ⟨s.env, s.M.set k c⟩
  | _ => s
theorem setC_len {a : AI} {c : Cn} : (setC s a c).M.length = s.M.length := by
  unfold setC
  split
  · rfl
  · exact List.length_set
  · rfl
theorem mut_ok {Hs : Hp} {v : V} {a : AI} {c : Cn} (r : Rel K ct H0 S s σ H) (i : ItOk K ct Hs S s σ H v a) (e : getC s a = some c) :
    ∃ p, v = .ref p ∧ CnOk K ct S s.M.length H p c ∧ ∀ o c', (c.isC = true → c'.isC = true) → CnOk K ct S s.M.length (upd H p o) p c' →
      Rel K ct H0 S (setC s a c') σ (upd H p o) ∧ Stp S s.M.length H S (setC s a c').M.length (upd H p o) := by
  have gen : ∀ (p : Addr) (l : Lab), S.lab p = some l → ∀ o : HO,
      (Same S.G (U ct.lk (upd H p o))) ∧ (∀ a l, S.lab a = some l → S.G a = none ∧ ∃ u, upd H p o a = some u) ∧ (∀ a, upd H p o a = none → H0 a = none) ∧
      (∀ {a : Addr} {c : Cn} {l' : Lab}, S.lab a = some l' → l' ≠ l → CnOk K ct S s.M.length H a c → CnOk K ct S s.M.length (upd H p o) a c) ∧ Stp S s.M.length H S s.M.length (upd H p o) := by
    intro p l hl o
    obtain ⟨hg, u0, hu0⟩ := r.lg p l hl
    refine ⟨fun a u q => ?_, fun a l' q => ?_, fun a q => r.dom a (upd_none.mp q).2, fun {a c l'} q ne h => ?_, ⟨fun _ _ q => q, Nat.le_refl _, fun _ _ => rfl, fun a u q ql => ⟨?_, ql⟩, fun _ _ q => .inl q, fun a q => (upd_none.mp q).2⟩⟩
    · rw [U_ne (fun z => by subst z; rw [hg] at q; cases q)]; exact r.sub a u q
    · obtain ⟨k1, u, k2⟩ := r.lg a l' q
      refine ⟨k1, ?_⟩
      by_cases z : a = p
      · subst z; exact ⟨o, upd_same⟩
      · exact ⟨u, by rw [upd_ne z]; exact k2⟩
    · have z : a ≠ p := fun z => by subst z; rw [hl] at q; cases q; exact ne rfl
      exact h.mono (fun _ _ q => q) (fun _ _ => rfl) (Nat.le_refl _) fun u q => by rw [upd_ne z]; exact q
    · rw [upd_ne (fun z => by subst z; rw [hl] at ql; cases ql)]; exact q
  cases a with
  | new c => cases e
  | slot j =>
    obtain ⟨en, q1, q2⟩ := Option.bind_eq_some_iff.mp e
    cases en with
    | fz d => cases q2
    | xn x => cases q2
    | ow c0 =>
      cases q2
      have q := entAt_eq q1
      obtain ⟨p, h1, h2, h3, h4, h5⟩ := r.slot j _ q
      have hi : σ[j]? = some (some v) := i
      rw [hi] at h1; cases h1
      refine ⟨p, rfl, h5, fun o c' hc hk => ?_⟩
      obtain ⟨g1, g2, g3, g4, g5⟩ := gen p _ h3 o
      refine ⟨⟨g1, g2, g3, ?_, fun m en hm => ?_, fun k cc hk' => ?_⟩, g5⟩
      · show σ.length = (s.env.set j _).length
        rw [List.length_set]; exact r.len
      · have hm1 : (s.env.set j (some (.ow c')))[m]? = some (some en) := hm
        by_cases z : j = m
        · subst z
          have hlt : j < s.env.length := (List.getElem?_eq_some_iff.mp q).1
          rw [List.getElem?_set_self hlt] at hm1
          cases hm1
          exact ⟨p, hi, h2, h3, hc h4, hk⟩
        · rw [List.getElem?_set_ne z] at hm1
          have hh := r.slot m en hm1
          cases en with
          | fz d => exact hh
          | xn x => exact xn_mono (S := S) (n := s.M.length) (H := H) (fun _ _ e => e) (fun _ _ => rfl) (Nat.le_refl _) rfl hh
          | ow c2 =>
            obtain ⟨a, k1, k2, k3, k4, k5⟩ := hh
            exact ⟨a, k1, k2, k3, k4, g4 k3 (fun w => by cases w; exact z rfl) k5⟩
      · obtain ⟨k1, k2⟩ := r.ids k cc hk'
        exact ⟨k1, g4 k1 (fun w => by cases w) k2⟩
  | val d =>
    cases d with
    | cid k =>
      have e1 : s.M[k]? = some c := e
      have i1 : Rp K S.G S.α s.M.length v (.cid k) := i
      cases i1
      obtain ⟨h3, h5⟩ := r.ids k c e1
      refine ⟨_, rfl, h5, fun o c' hc hk => ?_⟩
      obtain ⟨g1, g2, g3, g4, g5⟩ := gen _ _ h3 o
      have hl : (s.M.set k c').length = s.M.length := List.length_set
      refine ⟨⟨g1, g2, g3, r.len, fun m en hm => ?_, fun k' cc hk' => ?_⟩, by show Stp S s.M.length H S (s.M.set k c').length _; rw [hl]; exact g5⟩
      · have hh := r.slot m en hm
        show EntOk K ct H0 S (s.M.set k c').length σ _ m en
        rw [hl]
        cases en with
        | fz d => exact hh
        | xn x => exact xn_mono (S := S) (n := s.M.length) (H := H) (fun _ _ e => e) (fun _ _ => rfl) (Nat.le_refl _) rfl hh
        | ow c2 =>
          obtain ⟨a, k1, k2, k3, k4, k5⟩ := hh
          exact ⟨a, k1, k2, k3, k4, g4 k3 (fun w => by cases w) k5⟩
      · have hk1 : (s.M.set k c')[k']? = some cc := hk'
        show S.lab (S.α k') = some (.id k') ∧ CnOk K ct S (s.M.set k c').length _ (S.α k') cc
        rw [hl]
        by_cases z : k = k'
        · subst z
          have hlt : k < s.M.length := (List.getElem?_eq_some_iff.mp e1).1
          rw [List.getElem?_set_self hlt] at hk1
          cases hk1
          exact ⟨h3, hk⟩
        · rw [List.getElem?_set_ne z] at hk1
          obtain ⟨k1, k2⟩ := r.ids k' cc hk1
          exact ⟨k1, g4 k1 (fun w => by cases w; exact z rfl) k2⟩
    | _ => cases e
/-- a method of a list: the receiver is read, then the values -/
def JM (K : PySem.W.Frag) (ct : Ct) (H0 : Hp) (r : V → List V → Hp → VK → Prop) (f : Stt → AI → List D → Ro AI) : Prop := ∀ W S s σ H Hs x a vs ds Q, Rel K ct H0 S s σ H → ItOk K ct Hs S s σ H x a → RpL K S.G S.α s.M.length vs ds → Pst K ct H0 (RI K ct) W S s σ H Q (f s a ds) → r x vs H Q
def mBM (f : Stt → AI → List D → Ro AI) (mo : Mo AI) (ma : Mo (List D)) : Mo AI := fun s => (mo s).bind fun a s1 => match viewL s1 a with
  | some _ => (ma s1).bind fun ds s2 => f s2 a ds
  | none => .no
theorem ei_bm {r : V → List V → Hp → VK → Prop} {f : Stt → AI → List D → Ro AI} {to : TE} {t : TA} {mo : Mo AI} {ma : Mo (List D)} (hr : JM K ct H0 r f) (ho : Ei K ct H0 W to mo) (ha : EvL K ct H0 W t ma) : Ei K ct H0 W (tBM K "list" r to t) (mBM f mo ma) := fun S s σ H Q rel p =>
  ho S s σ H _ rel (Pst.bind bI p fun S1 s1 H1 x a st1 rel1 i1 p1 => by
    split at p1
    · rename_i l e
      obtain ⟨q, vs, rfl, h1, _⟩ := viewL_ok rel1 i1 e
      exact ⟨.inl ⟨rfl, vs, h1⟩, ha S1 s1 σ H1 _ rel1 (Pst.bind bI p1 fun S2 s2 H2 vs ds st2 rel2 i2 p2 => hr W S2 s2 σ H2 _ _ a vs ds Q rel2 (i1.step st2) i2 p2)⟩
    · exact False.elim p1)
theorem ei_bm0 {r : V → List V → Hp → VK → Prop} {f : Stt → AI → List D → Ro AI} {to : TE} {mo : Mo AI} (hr : JM K ct H0 r f) (ho : Ei K ct H0 W to mo) : Ei K ct H0 W (tBM0 K "list" r to) (mBM f mo vNil) := fun S s σ H Q rel p =>
  ho S s σ H _ rel (Pst.bind bI p fun S1 s1 H1 x a st1 rel1 i1 p1 => by
    split at p1
    · rename_i l e
      obtain ⟨q, vs, rfl, h1, _⟩ := viewL_ok rel1 i1 e
      exact ⟨.inl ⟨rfl, vs, h1⟩, hr W S1 s1 σ H1 _ _ a [] [] Q rel1 i1 .nil p1⟩
    · exact False.elim p1)
def fApp (s : Stt) (a : AI) (ds : List D) : Ro AI := match ds, getC s a with
  | [d], some (.lst l) => if l.length < sizeLine then .ok (.val .non) (setC s a (.lst (l ++ [d]))) else .no
  | _, _ => .no
theorem Pst.mut {a : AI} {c' : Cn} {Q : VK} {H' : Hp} (p : Pst K ct H0 (RI K ct) W S s σ H Q (.ok (.val .non) (setC s a c'))) (h : Rel K ct H0 S (setC s a c') σ H' ∧ Stp S s.M.length H S (setC s a c').M.length H') : Q .non H' := p S .non H' h.2 h.1 .non
theorem jm_app : JM K ct H0 rAppend fApp := fun W S s σ H Hs x a vs ds Q rel i r p => by
  unfold fApp at p
  split at p
  · rename_i d l e
    split at p
    · rename_i hz
      obtain ⟨q, rfl, ⟨us, h1, h2⟩, h3⟩ := mut_ok rel i e
      cases r with
      | cons r1 r2 =>
        cases r2
        exact ⟨q, us, _, rfl, rfl, h1, by rw [h2.length]; exact hz, p.mut (h3 _ (.lst (l ++ [d])) (fun _ => rfl) ⟨_, upd_same, h2.append (.cons r1 .nil)⟩)⟩
    · exact False.elim p
  · exact False.elim p
def fRev (s : Stt) (a : AI) (ds : List D) : Ro AI := match ds, getC s a with
  | [], some (.lst l) => .ok (.val .non) (setC s a (.lst l.reverse))
  | _, _ => .no
theorem jm_rev : JM K ct H0 rReverse fRev := fun W S s σ H Hs x a vs ds Q rel i r p => by
  unfold fRev at p
  split at p
  · rename_i l e
    obtain ⟨q, rfl, ⟨us, h1, h2⟩, h3⟩ := mut_ok rel i e
    cases r
    exact ⟨q, us, rfl, rfl, h1, p.mut (h3 _ (.lst l.reverse) (fun _ => rfl) ⟨_, upd_same, h2.rev⟩)⟩
  · exact False.elim p
def fExt (s : Stt) (a : AI) (ds : List D) : Ro AI := match ds with
  | [d] => match getC s a, listX s.M d with
    | some (.lst l), some l' => if l.length + l'.length ≤ sizeLine then .ok (.val .non) (setC s a (.lst (l ++ l'))) else .no
    | _, _ => .no
  | _ => .no
theorem jm_ext : JM K ct H0 rExtend fExt := fun W S s σ H Hs x a vs ds Q rel i r p => by
  unfold fExt at p
  split at p
  · rename_i d
    split at p
    · rename_i l l' e e2
      split at p
      · rename_i hz
        obtain ⟨q, rfl, ⟨us, h1, h2⟩, h3⟩ := mut_ok rel i e
        cases r with
        | cons r1 r2 =>
          cases r2
          obtain ⟨q2, us2, rfl, k1, k2⟩ := viewX_ok (Hs := H) (a := .val d) rel r1 (show ((look s (.val d)).bind (listX s.M)) = some l' from e2)
          exact ⟨q, q2, us, us2, rfl, rfl, h1, k1, by rw [h2.length, k2.length]; exact hz, p.mut (h3 _ (.lst (l ++ l')) (fun _ => rfl) ⟨_, upd_same, h2.append k2⟩)⟩
      · exact False.elim p
    · exact False.elim p
  · exact False.elim p
/-! ## statements -/
def PstS (K : PySem.W.Frag) (ct : Ct) (H0 : Hp) (W : WX) (S : Sh) (s : Stt) (H : Hp) (Dn : Ends) : Rs → Prop
  | .nx s' => ∀ S' σ' H', Stp S s.M.length H S' s'.M.length H' → Rel K ct H0 S' s' σ' H' → Dn.nx σ' H'
  | .bk s' => ∀ S' σ' H', Stp S s.M.length H S' s'.M.length H' → Rel K ct H0 S' s' σ' H' → Dn.bk σ' H'
  | .ct s' => ∀ S' σ' H', Stp S s.M.length H S' s'.M.length H' → Rel K ct H0 S' s' σ' H' → Dn.ct σ' H'
  | .rt a s' => ∀ S' σ' v H', Stp S s.M.length H S' s'.M.length H' → Rel K ct H0 S' s' σ' H' → ItOk K ct H0 S' s' [] H' v a → Dn.rt v H'
  | .er x s' => ∀ S' σ' H' dd, Stp S s.M.length H S' s'.M.length H' → Rel K ct H0 S' s' σ' H' → XOk K S' s'.M.length H' x dd → W (.ref (ct x.cls)) dd σ' H'
  | .no => False
def Sv (K : PySem.W.Frag) (ct : Ct) (H0 : Hp) (W : WX) (t : TS) (m : Ms) : Prop := ∀ S s σ H Dn, Rel K ct H0 S s σ H → PstS K ct H0 W S s H Dn (m s) → t Dn σ H
theorem PstS.from {S1 : Sh} {s1 : Stt} {H1 : Hp} {Dn : Ends} {r : Rs} (h : PstS K ct H0 W S s H Dn r) (t : Stp S s.M.length H S1 s1.M.length H1) : PstS K ct H0 W S1 s1 H1 Dn r := by
  cases r with
  | nx s' => exact fun S' σ' H' st rel => h S' σ' H' (t.trans st) rel
  | bk s' => exact fun S' σ' H' st rel => h S' σ' H' (t.trans st) rel
  | ct s' => exact fun S' σ' H' st rel => h S' σ' H' (t.trans st) rel
  | rt a s' => exact fun S' σ' v H' st rel => h S' σ' v H' (t.trans st) rel
  | er x s' => exact fun S' σ' H' dd st rel => h S' σ' H' dd (t.trans st) rel
  | no => exact h
/-- an expression's result goes on to a statement's -/
def Ro.toS {α : Type} (r : Ro α) (f : α → Ms) : Rs := match r with
  | .ok a s => f a s
  | .er x s => .er x s
  | .no => .no
theorem PstS.bind {β α : Type} {R : RR β α} {Dn : Ends} {Q1 : β → Hp → Prop} {r : Ro α} {f : α → Ms} (h : PstS K ct H0 W S s H Dn (r.toS f))
    (k : ∀ S1 s1 H1 x a, Stp S s.M.length H S1 s1.M.length H1 → Rel K ct H0 S1 s1 σ H1 → R H S1 s1 σ H1 x a → PstS K ct H0 W S s H Dn (f a s1) → Q1 x H1) : Pst K ct H0 R W S s σ H Q1 r := by
  cases r with
  | ok a s' => exact fun S' x H' st rel q => k S' s' H' x a st rel q h
  | er x s' => exact fun S' H' dd st rel q => h S' σ H' dd st rel q
  | no => exact h
def mSeq (m1 m2 : Ms) : Ms := fun s => match m1 s with
  | .nx s1 => m2 s1
  | r => r
theorem sv_seq {t u : TS} {m1 m2 : Ms} (h1 : Sv K ct H0 W t m1) (h2 : Sv K ct H0 W u m2) : Sv K ct H0 W (tSeq t u) (mSeq m1 m2) := fun S s σ H Dn rel p => h1 S s σ H _ rel (by
  unfold mSeq at p
  cases q : m1 s with
  | nx s1 => rw [q] at p; exact fun S1 σ1 H1 st rel1 => h2 S1 s1 σ1 H1 Dn rel1 (PstS.from p st)
  | bk s1 => rw [q] at p; exact p
  | ct s1 => rw [q] at p; exact p
  | rt a s1 => rw [q] at p; exact p
  | er x s1 => rw [q] at p; exact p
  | no => rw [q] at p; exact p)
def mNext : Ms := fun s => .nx s
theorem sv_next : Sv K ct H0 W tNext mNext := fun S s σ H Dn rel p => p S σ H .refl rel
def mBrk : Ms := fun s => .bk s
theorem sv_brk : Sv K ct H0 W tBreak mBrk := fun S s σ H Dn rel p => p S σ H .refl rel
def mCnt : Ms := fun s => .ct s
theorem sv_cnt : Sv K ct H0 W tCont mCnt := fun S s σ H Dn rel p => p S σ H .refl rel
def mNever : Ms := fun _ => .no
theorem sv_never : Sv K ct H0 W tNever mNever := fun S s σ H Dn rel p => p
def mDrop (m : Mo AI) : Ms := fun s => (m s).toS fun _ s1 => .nx s1
theorem sv_drop {te : TE} {m : Mo AI} (h : Ei K ct H0 W te m) : Sv K ct H0 W (tDrop te) (mDrop m) := fun S s σ H Dn rel p => h S s σ H _ rel (PstS.bind p fun S1 s1 H1 x a st1 rel1 i1 p1 => p1 S1 σ H1 st1 rel1)
def mIfS (c : Mo Bool) (m1 m2 : Ms) : Ms := fun s => (c s).toS fun b s1 => if b = true then m1 s1 else m2 s1
theorem sv_if {c : TT} {t u : TS} {mc : Mo Bool} {m1 m2 : Ms} (hc : Et K ct H0 W c mc) (h1 : Sv K ct H0 W t m1) (h2 : Sv K ct H0 W u m2) : Sv K ct H0 W (tIfS c t u) (mIfS mc m1 m2) := fun S s σ H Dn rel p =>
  hc S s σ H _ rel (PstS.bind p fun S1 s1 H1 x a st1 rel1 i1 p1 => by
    cases (show x = a from i1)
    cases x with
    | true => rw [if_pos rfl] at p1 ⊢; exact h1 S1 s1 σ H1 Dn rel1 (PstS.from p1 st1)
    | false => rw [if_neg Bool.false_ne_true] at p1 ⊢; exact h2 S1 s1 σ H1 Dn rel1 (PstS.from p1 st1))
/-! ### slots -/
def Sh.un (S : Sh) (i : Nat) : Sh := ⟨S.G, S.α, fun a => if S.lab a = some (.slot i) then none else S.lab a⟩
theorem un_lab {i : Nat} {a : Addr} {l : Lab} (h : S.lab a = some l) (ne : l ≠ .slot i) : (S.un i).lab a = some l := by
  show (if S.lab a = some (.slot i) then none else S.lab a) = _
  rw [if_neg (fun z => by rw [h] at z; cases z; exact ne rfl)]; exact h
theorem un_of {i : Nat} {a : Addr} {l : Lab} (h : (S.un i).lab a = some l) : S.lab a = some l := by
  have h1 : (if S.lab a = some (.slot i) then none else S.lab a) = some l := h
  split at h1
  · cases h1
  · exact h1
theorem Stp.un {n : Nat} {i : Nat} : Stp S n H (S.un i) n H := ⟨fun _ _ e => e, Nat.le_refl _, fun _ _ => rfl, fun a o h l => ⟨h, by
  show (if S.lab a = some (.slot i) then none else S.lab a) = none
  split
  · rfl
  · exact l⟩, fun _ _ e => .inl e, fun _ h => h⟩
theorem cn_un {n i : Nat} {p : Addr} {c : Cn} (h : CnOk K ct S n H p c) : CnOk K ct (S.un i) n H p c := h.mono (fun _ _ e => e) (fun _ _ => rfl) (Nat.le_refl _) (fun _ e => e)
/-- slot i is given another value -/
theorem Rel.setFz {i : Nat} {v : V} {d : D} (r : Rel K ct H0 S s σ H) (h : Rp K S.G S.α s.M.length v d) : Rel K ct H0 (S.un i) ⟨s.env.set i (some (.fz d)), s.M⟩ (σ.set i (some v)) H := by
  refine ⟨r.sub, fun a l q => r.lg a l (un_of q), r.dom, by rw [List.length_set]; show _ = (s.env.set i _).length; rw [List.length_set]; exact r.len, fun j en q => ?_, fun k c q => ?_⟩
  · have q1 : (s.env.set i (some (.fz d)))[j]? = some (some en) := q
    by_cases z : i = j
    · subst z
      have hlt : i < s.env.length := by
        have := (List.getElem?_eq_some_iff.mp q1).1
        rw [List.length_set] at this; exact this
      rw [List.getElem?_set_self hlt] at q1
      cases q1
      exact ⟨v, List.getElem?_set_self (by rw [r.len]; exact hlt), h⟩
    · rw [List.getElem?_set_ne z] at q1
      have hh := r.slot j en q1
      cases en with
      | fz d' => obtain ⟨w, k1, k2⟩ := hh; exact ⟨w, by rw [List.getElem?_set_ne z]; exact k1, k2⟩
      | xn x => exact xn_mono (S := S) (n := s.M.length) (H := H) (fun _ _ e => e) (fun _ _ => rfl) (Nat.le_refl _) (List.getElem?_set_ne z) hh
      | ow c =>
        obtain ⟨p, k1, k2, k3, k4, k5⟩ := hh
        exact ⟨p, by rw [List.getElem?_set_ne z]; exact k1, k2, un_lab k3 (fun w => by cases w; exact z rfl), k4, cn_un k5⟩
  · obtain ⟨k1, k2⟩ := r.ids k c q
    exact ⟨un_lab k1 (fun w => by cases w), cn_un k2⟩
theorem Rel.setN {i : Nat} (r : Rel K ct H0 S s σ H) : Rel K ct H0 (S.un i) ⟨s.env.set i none, s.M⟩ σ H := by
  refine ⟨r.sub, fun a l q => r.lg a l (un_of q), r.dom, by show _ = (s.env.set i _).length; rw [List.length_set]; exact r.len, fun j en q => ?_, fun k c q => ?_⟩
  · have q1 : (s.env.set i none)[j]? = some (some en) := q
    by_cases z : i = j
    · subst z
      have hlt : i < s.env.length := by
        have := (List.getElem?_eq_some_iff.mp q1).1
        rw [List.length_set] at this; exact this
      rw [List.getElem?_set_self hlt] at q1
      cases q1
    · rw [List.getElem?_set_ne z] at q1
      have hh := r.slot j en q1
      cases en with
      | fz d' => exact hh
      | xn x => exact xn_mono (S := S) (n := s.M.length) (H := H) (fun _ _ e => e) (fun _ _ => rfl) (Nat.le_refl _) rfl hh
      | ow c =>
        obtain ⟨p, k1, k2, k3, k4, k5⟩ := hh
        exact ⟨p, k1, k2, un_lab k3 (fun w => by cases w; exact z rfl), k4, cn_un k5⟩
  · obtain ⟨k1, k2⟩ := r.ids k c q
    exact ⟨un_lab k1 (fun w => by cases w), cn_un k2⟩
def Sh.cl (S : Sh) (i : Nat) (p : Addr) : Sh := ⟨S.G, S.α, fun a => if a = p then some (.slot i) else if S.lab a = some (.slot i) then none else S.lab a⟩
theorem Rel.setOw {i : Nat} {p : Addr} {c : Cn} (r : Rel K ct H0 S s σ H) (h0 : H0 p = none) (hl : S.lab p = none) (hg : S.G p = none) (hc : c.isC = true) (h : CnOk K ct S s.M.length H p c) : Rel K ct H0 (S.cl i p) ⟨s.env.set i (some (.ow c)), s.M⟩ (σ.set i (some (.ref p))) H := by
  have lb : ∀ {a : Addr} {l : Lab}, S.lab a = some l → l ≠ .slot i → (S.cl i p).lab a = some l := fun {a l} hh ne => by
    show (if a = p then _ else if S.lab a = some (.slot i) then none else S.lab a) = _
    rw [if_neg (fun z => by subst z; rw [hl] at hh; cases hh), if_neg (fun z => by rw [hh] at z; cases z; exact ne rfl)]; exact hh
  have cn : ∀ {a : Addr} {c : Cn}, CnOk K ct S s.M.length H a c → CnOk K ct (S.cl i p) s.M.length H a c := fun {a c} h => h.mono (fun _ _ e => e) (fun _ _ => rfl) (Nat.le_refl _) (fun _ e => e)
  refine ⟨r.sub, fun a l q => ?_, r.dom, by rw [List.length_set]; show _ = (s.env.set i _).length; rw [List.length_set]; exact r.len, fun j en q => ?_, fun k c' q => ?_⟩
  · have q1 : (if a = p then some (Lab.slot i) else if S.lab a = some (.slot i) then none else S.lab a) = some l := q
    by_cases z : a = p
    · subst z; exact ⟨hg, h.some⟩
    · rw [if_neg z] at q1
      split at q1
      · cases q1
      · exact r.lg a l q1
  · have q1 : (s.env.set i (some (.ow c)))[j]? = some (some en) := q
    by_cases z : i = j
    · subst z
      have hlt : i < s.env.length := by
        have := (List.getElem?_eq_some_iff.mp q1).1
        rw [List.length_set] at this; exact this
      rw [List.getElem?_set_self hlt] at q1
      cases q1
      exact ⟨p, List.getElem?_set_self (by rw [r.len]; exact hlt), h0, if_pos rfl, hc, cn h⟩
    · rw [List.getElem?_set_ne z] at q1
      have hh := r.slot j en q1
      cases en with
      | fz d' => obtain ⟨w, k1, k2⟩ := hh; exact ⟨w, by rw [List.getElem?_set_ne z]; exact k1, k2⟩
      | xn x => exact xn_mono (S := S) (n := s.M.length) (H := H) (fun _ _ e => e) (fun _ _ => rfl) (Nat.le_refl _) (List.getElem?_set_ne z) hh
      | ow c' =>
        obtain ⟨a, k1, k2, k3, k4, k5⟩ := hh
        exact ⟨a, by rw [List.getElem?_set_ne z]; exact k1, k2, lb k3 (fun w => by cases w; exact z rfl), k4, cn k5⟩
  · obtain ⟨k1, k2⟩ := r.ids k c' q
    exact ⟨lb k1 (fun w => by cases w), cn k2⟩
theorem Stp.claim {S' : Sh} {n n' i : Nat} {H' : Hp} {p : Addr} (t : Stp S n H S' n' H') (hp : H p = none) : Stp S n H (S'.cl i p) n' H' where
  g := t.g
  le := t.le
  al := t.al
  fr := fun a o h l => by
    obtain ⟨h1, h2⟩ := t.fr a o h l
    refine ⟨h1, ?_⟩
    show (if a = p then _ else if S'.lab a = some (.slot i) then none else S'.lab a) = none
    rw [if_neg (ne_of_none h hp)]
    split
    · rfl
    · exact h2
  gn := t.gn
  dom := t.dom
def asg (i : Nat) (a : AI) : Ms := fun s => match a with
  | .val d => .nx ⟨s.env.set i (some (.fz d)), s.M⟩
  | .new c => .nx ⟨s.env.set i (some (.ow c)), s.M⟩
  | .slot j => (toV (.slot j) s).toS fun d s1 => .nx ⟨s1.env.set i (some (.fz d)), s1.M⟩
def mAsg (i : Nat) (m : Mo AI) : Ms := fun s => (m s).toS (asg i)
theorem sv_asg {i : Nat} {te : TE} {m : Mo AI} (h : Ei K ct H0 W te m) : Sv K ct H0 W (tAsg te (gName i)) (mAsg i m) := fun S s σ H Dn rel p =>
  h S s σ H _ rel (PstS.bind p fun S1 s1 H1 x a st1 rel1 i1 p1 => by
    show Dn.nx (σ.set i (some x)) H1
    cases a with
    | val d => exact p1 (S1.un i) _ H1 (st1.trans .un) (rel1.setFz i1)
    | new c =>
      obtain ⟨q, rfl, h1, h2, h3, h4, h5⟩ := i1
      exact p1 (S1.cl i q) _ H1 (st1.claim h1) (rel1.setOw (rel.dom q h1) h2 h3 h4 h5)
    | slot j =>
      have hi : σ[j]? = some (some x) := i1
      have p1 : PstS K ct H0 W S s H Dn ((match entAt s1 j with | some (.ow c) => Ro.ok c.toD ⟨s1.env.set j (some (.fz c.toD)), s1.M⟩ | some (.fz d) => Ro.ok d s1 | _ => Ro.no).toS fun d s1 => .nx ⟨s1.env.set i (some (.fz d)), s1.M⟩) := p1
      cases qe : entAt s1 j with
      | none => rw [qe] at p1; exact False.elim p1
      | some en =>
        rw [qe] at p1
        cases en with
        | fz d =>
          obtain ⟨v', k1, k2⟩ := rel1.slot j _ (entAt_eq qe)
          rw [hi] at k1; cases k1
          exact p1 (S1.un i) _ H1 (st1.trans .un) (rel1.setFz k2)
        | xn x => exact False.elim p1
        | ow c =>
          obtain ⟨S2, v', k1, st2, rel2, k2⟩ := frz_slot rel1 (entAt_eq qe)
          rw [hi] at k1; cases k1
          exact p1 (S2.un i) _ H1 ((st1.trans st2).trans .un) (rel2.setFz k2))
def ret (a : AI) : Ms := fun s => match a with
  | .val d => .rt (.val d) s
  | .new c => .rt (.new c) s
  | .slot i => match entAt s i with
    | some (.ow c) => .rt (.new c) ⟨s.env.set i none, s.M⟩
    | some (.fz d) => .rt (.val d) s
    | _ => .no
def mRet (m : Mo AI) : Ms := fun s => (m s).toS ret
theorem sv_ret {te : TE} {m : Mo AI} (h : Ei K ct H0 W te m) : Sv K ct H0 W (tRet te) (mRet m) := fun S s σ H Dn rel p =>
  h S s σ H _ rel (PstS.bind p fun S1 s1 H1 x a st1 rel1 i1 p1 => by
    cases a with
    | val d => exact p1 S1 σ x H1 st1 rel1 i1
    | new c =>
      obtain ⟨q, rfl, h1, h2, h3, h4, h5⟩ := i1
      exact p1 S1 σ _ H1 st1 rel1 ⟨q, rfl, rel.dom q h1, h2, h3, h4, h5⟩
    | slot j =>
      have hi : σ[j]? = some (some x) := i1
      have p1 : PstS K ct H0 W S s H Dn (match entAt s1 j with | some (.ow c) => .rt (.new c) ⟨s1.env.set j none, s1.M⟩ | some (.fz d) => .rt (.val d) s1 | _ => .no) := p1
      cases qe : entAt s1 j with
      | none => rw [qe] at p1; exact False.elim p1
      | some en =>
        rw [qe] at p1
        cases en with
        | fz d =>
          obtain ⟨v', k1, k2⟩ := rel1.slot j _ (entAt_eq qe)
          rw [hi] at k1; cases k1
          exact p1 S1 σ x H1 st1 rel1 k2
        | xn x => exact False.elim p1
        | ow c =>
          obtain ⟨q, k1, k2, k3, k4, k5⟩ := rel1.slot j _ (entAt_eq qe)
          rw [hi] at k1; cases k1
          refine p1 (S1.un j) σ _ H1 (st1.trans .un) rel1.setN ⟨q, rfl, k2, ?_, (rel1.lg q _ k3).1, k4, cn_un k5⟩
          show (if S1.lab q = some (.slot j) then none else S1.lab q) = none
          rw [if_pos k3])
def mRetN : Ms := fun s => .rt (.val .non) s
theorem sv_retN : Sv K ct H0 W tRetN mRetN := fun S s σ H Dn rel p => p S σ .non H .refl rel .non
end
end Y

namespace Y
open PySem L2 Z
/-! ## targets -/
abbrev Tg := D → Stt → Option Stt
abbrev Tgs := List D → Stt → Option Stt
/-- what of the slots is left when some are wiped -/
def Keeps (js : List Nat) (σ σ' : St) : Prop := ∀ ws : List Nat, (∀ j ∈ js, j ∈ ws) → wipe σ' ws = wipe σ ws
theorem wipe_in {σ : St} {i : Nat} : ∀ {vs : List Nat}, i ∈ vs → i < σ.length → (wipe σ vs)[i]? = some none
  | v :: vs, h, hl => by
    show ((wipe σ vs).set v none)[i]? = _
    by_cases e : v = i
    · subst e; rw [List.getElem?_set_self (by rw [wipe_length]; exact hl)]
    · rw [List.getElem?_set_ne e]
      rcases List.mem_cons.mp h with z | z
      · exact absurd z.symm e
      · exact wipe_in z hl
theorem keeps_set {σ : St} {i : Nat} {x : Option V} : Keeps [i] σ (σ.set i x) := fun ws h => by
  refine List.ext_getElem? fun k => ?_
  by_cases hk : k ∈ ws
  · by_cases hl : k < σ.length
    · rw [wipe_in hk (by rw [List.length_set]; exact hl), wipe_in hk hl]
    · rw [List.getElem?_eq_none_iff.mpr (by rw [wipe_length, List.length_set]; omega), List.getElem?_eq_none_iff.mpr (by rw [wipe_length]; omega)]
  · rw [wipe_out hk, wipe_out hk]
    have : i ≠ k := fun z => hk (z ▸ h i (by simp))
    rw [List.getElem?_set_ne this]
theorem keeps_refl {σ : St} {js : List Nat} : Keeps js σ σ := fun _ _ => rfl
theorem Keeps.trans {σ σ1 σ2 : St} {js ks : List Nat} (a : Keeps js σ σ1) (b : Keeps ks σ1 σ2) : Keeps (js ++ ks) σ σ2 := fun ws h => (b ws fun j hj => h j (by simp [hj])).trans (a ws fun j hj => h j (by simp [hj]))
section
variable {K : PySem.W.Frag} {ct : Ct} {H0 : Hp} {W : WX} {S : Sh} {s : Stt} {σ : St} {H : Hp}
def Sg (K : PySem.W.Frag) (ct : Ct) (H0 : Hp) (js : List Nat) (g : TG) (f : Tg) : Prop := ∀ S s σ H v d s' (Q : St → Hp → Prop), Rel K ct H0 S s σ H → Rp K S.G S.α s.M.length v d → f d s = some s' →
  (∀ S' σ', Stp S s.M.length H S' s'.M.length H → Rel K ct H0 S' s' σ' H → Keeps js σ σ' → S'.G = S.G → S'.α = S.α → Q σ' H) → g v σ H Q
def Sgs (K : PySem.W.Frag) (ct : Ct) (H0 : Hp) (js : List Nat) (g : TGs) (f : Tgs) : Prop := ∀ S s σ H vs ds s' (Q : St → Hp → Prop), Rel K ct H0 S s σ H → RpL K S.G S.α s.M.length vs ds → f ds s = some s' →
  (∀ S' σ', Stp S s.M.length H S' s'.M.length H → Rel K ct H0 S' s' σ' H → Keeps js σ σ' → S'.G = S.G → S'.α = S.α → Q σ' H) → g vs σ H Q
def tgN (i : Nat) : Tg := fun d s => some ⟨s.env.set i (some (.fz d)), s.M⟩
theorem sg_name {i : Nat} : Sg K ct H0 [i] (gName i) (tgN i) := fun S s σ H v d s' Q rel r e q => by
  cases e
  exact q (S.un i) _ .un (rel.setFz r) keeps_set rfl rfl
def tgNil : Tgs := fun ds s => match ds with
  | [] => some s
  | _ => none
def tgCons (f : Tg) (r : Tgs) : Tgs := fun ds s => match ds with
  | [] => none
  | d :: ds => (f d s).bind fun s1 => r ds s1
def tgT (n : Nat) (f : Tgs) : Tg := fun d s => match tupOf d with
  | some l => if l.length = n then f l s else none
  | none => none
theorem sgs_nil : Sgs K ct H0 [] gNil tgNil := fun S s σ H vs ds s' Q rel r e q => by
  cases r with
  | nil => cases e; exact ⟨rfl, q S σ .refl rel keeps_refl rfl rfl⟩
  | cons a b => cases e
theorem sgs_cons {js ks : List Nat} {g : TG} {gs : TGs} {f : Tg} {r : Tgs} (h1 : Sg K ct H0 js g f) (h2 : Sgs K ct H0 ks gs r) : Sgs K ct H0 (js ++ ks) (gCons g gs) (tgCons f r) := fun S s σ H vs ds s' Q rel rr e q => by
  cases rr with
  | nil => cases e
  | cons a b =>
    obtain ⟨s1, e1, e2⟩ := Option.bind_eq_some_iff.mp e
    refine ⟨_, _, rfl, h1 S s σ H _ _ s1 _ rel a e1 fun S1 σ1 st1 rel1 k1 g1 a1 => ?_⟩
    exact h2 S1 s1 σ1 H _ _ s' _ rel1 (b.step st1) e2 fun S2 σ2 st2 rel2 k2 g2 a2 => q S2 σ2 (st1.trans st2) rel2 (k1.trans k2) (g2.trans g1) (a2.trans a1)
theorem sg_tup {js : List Nat} {n : Nat} {gs : TGs} {f : Tgs} (h : Sgs K ct H0 js gs f) : Sg K ct H0 js (gTup K n gs) (tgT n f) := fun S s σ H v d s' Q rel r e q => by
  unfold tgT at e
  split at e
  · rename_i l el
    split at e
    · rename_i hl
      obtain ⟨p, vs, rfl, k1, k2⟩ := viewT_ok (Hs := H) (a := .val d) (v := v) rel r (by unfold viewT look; exact el)
      exact ⟨p, vs, rfl, k1, by rw [k2.length]; exact hl, h S s σ H vs l s' Q rel k2 e q⟩
    · cases e
  · cases e
def mAsgT (g : Tg) (m : Mo AI) : Ms := fun s => (mV m s).toS fun d s1 => match g d s1 with
  | some s2 => .nx s2
  | none => .no
theorem sv_asgT {js : List Nat} {n : Nat} {gs : TGs} {f : Tg} {te : TE} {m : Mo AI} (hg : Sg K ct H0 js (gTup K n gs) f) (h : Ei K ct H0 W te m) : Sv K ct H0 W (tAsg te (gTup K n gs)) (mAsgT f m) := fun S s σ H Dn rel p =>
  ev_of h S s σ H _ rel (PstS.bind p fun S1 s1 H1 x a st1 rel1 i1 p1 => by
    show gTup K n gs x σ H1 Dn.nx
    split at p1
    · rename_i s2 e
      exact hg S1 s1 σ H1 x a s2 _ rel1 i1 e fun S2 σ2 st2 rel2 _ _ _ => p1 S2 σ2 H1 (st1.trans st2) rel2
    · exact False.elim p1)
/-! ## what is walked -/
structure Im where
  xs : List D
  ck : Option (Nat × Cn)
def chk : Option (Nat × Cn) → Stt → Prop
  | none, _ => True
  | some (k, c), s => s.M[k]? = some c
def Wk (K : PySem.W.Frag) (ct : Ct) (H0 : Hp) (S : Sh) (n : Nat) (H : Hp) (J : It) (im : Im) : Prop := ∀ S1 s1 σ1 H1, Stp S n H S1 s1.M.length H1 → Rel K ct H0 S1 s1 σ1 H1 → chk im.ck s1 →
  (∀ i d, im.xs[i]? = some d → J.go i H1 ∧ ∀ x H2, J.yld i H1 x H2 → ∃ S2, Stp S1 s1.M.length H1 S2 s1.M.length H2 ∧ Rel K ct H0 S2 s1 σ1 H2 ∧ Rp K S2.G S2.α s1.M.length x d) ∧ J.stop im.xs.length H1
def RW (K : PySem.W.Frag) (ct : Ct) (H0 : Hp) : RR It Im := fun _ S s _ H J im => Wk K ct H0 S s.M.length H J im
abbrev Jw (K : PySem.W.Frag) (ct : Ct) (H0 : Hp) (W : WX) (wi : TI) (m : Mo Im) : Prop := Jd K ct H0 (RW K ct H0) W wi m
theorem bW : Bck (RW K ct H0) := fun _ _ _ _ _ _ _ _ _ h => h
def rng (lo : Int) (n : Nat) : List D := (List.range n).map fun i => .int (lo + (i : Nat))
theorem wk_range {lo : Int} {n m : Nat} : Wk K ct H0 S m H (Itr lo n) ⟨rng lo n, none⟩ := fun S1 s1 σ1 H1 st rel _ => by
  refine ⟨fun i d e => ?_, ?_⟩
  · unfold rng at e
    rw [List.getElem?_map] at e
    obtain ⟨j, e1, rfl⟩ := Option.map_eq_some_iff.mp e
    have hj := (List.getElem?_eq_some_iff.mp e1)
    obtain ⟨hlt, ej⟩ := hj
    rw [List.getElem_range] at ej
    rw [List.length_range] at hlt
    subst ej
    refine ⟨hlt, fun x H2 h => ?_⟩
    obtain ⟨rfl, rfl⟩ := h
    exact ⟨S1, .refl, rel, .int _⟩
  · show n ≤ (rng lo n).length
    unfold rng; rw [List.length_map, List.length_range]; exact Nat.le_refl _
def mRng1 (m : Mo (List AI)) : Mo Im := fun s => (m s).bind fun as s1 => match as with
  | [.val (.int n)] => if -(2 ^ 62) ≤ n ∧ n < 2 ^ 62 then .ok ⟨rng 0 n.toNat, none⟩ s1 else .no
  | _ => .no
theorem jw_rng1 {ta : TA} {m : Mo (List AI)} (h : EaL K ct H0 W ta m) : Jw K ct H0 W (iRng1 ta) (mRng1 m) := fun S s σ H Q rel p =>
  h S s σ H _ rel (Pst.bind bW p fun S1 s1 H1 x a st1 rel1 i1 p1 => by
    split at p1
    · rename_i n
      obtain ⟨v, rfl, k⟩ := as1 i1
      cases rp_int k
      split at p1
      · rename_i hz
        exact ⟨n, rfl, hz.1, hz.2, p1 S1 _ H1 .refl rel1 wk_range⟩
      · exact False.elim p1
    · exact False.elim p1)
def mRng2 (m : Mo (List AI)) : Mo Im := fun s => (m s).bind fun as s1 => match as with
  | [.val (.int i), .val (.int j)] => if -(2 ^ 62) ≤ i ∧ i < 2 ^ 62 ∧ -(2 ^ 62) ≤ j ∧ j < 2 ^ 62 then .ok ⟨rng i (j - i).toNat, none⟩ s1 else .no
  | _ => .no
theorem jw_rng2 {ta : TA} {m : Mo (List AI)} (h : EaL K ct H0 W ta m) : Jw K ct H0 W (iRng2 ta) (mRng2 m) := fun S s σ H Q rel p =>
  h S s σ H _ rel (Pst.bind bW p fun S1 s1 H1 x a st1 rel1 i1 p1 => by
    split at p1
    · rename_i i j
      obtain ⟨v, w, rfl, k1, k2⟩ := as2 i1
      cases rp_int k1; cases rp_int k2
      split at p1
      · rename_i hz
        exact ⟨i, j, rfl, hz, p1 S1 _ H1 .refl rel1 wk_range⟩
      · exact False.elim p1
    · exact False.elim p1)
def rngC (lo c : Int) (n : Nat) : List D := (List.range n).map fun i => .int (lo + ((i : Nat) : Int) * c)
theorem wk_rngC {lo c : Int} {n m : Nat} : Wk K ct H0 S m H (Itc lo c n) ⟨rngC lo c n, none⟩ := fun S1 s1 σ1 H1 st rel _ => by
  refine ⟨fun i d e => ?_, ?_⟩
  · unfold rngC at e
    rw [List.getElem?_map] at e
    obtain ⟨j, e1, rfl⟩ := Option.map_eq_some_iff.mp e
    obtain ⟨hlt, ej⟩ := List.getElem?_eq_some_iff.mp e1
    rw [List.getElem_range] at ej
    rw [List.length_range] at hlt
    subst ej
    refine ⟨hlt, fun x H2 h => ?_⟩
    obtain ⟨rfl, rfl⟩ := h
    exact ⟨S1, .refl, rel, .int _⟩
  · show n ≤ (rngC lo c n).length
    unfold rngC; rw [List.length_map, List.length_range]; exact Nat.le_refl _
open Classical in
noncomputable def mRng3 (m : Mo (List AI)) : Mo Im := fun s => (m s).bind fun as s1 => match as with
  | [.val (.int i), .val (.int j), .val (.int c)] => if RgC i j c (Builtin.Range.rangeSize i j c).toNat then .ok ⟨rngC i c (Builtin.Range.rangeSize i j c).toNat, none⟩ s1 else .no
  | _ => .no
theorem as3 {Hs : Hp} {vs : List V} {a b c : AI} (h : AsOk K ct Hs S s σ H vs [a, b, c]) : ∃ v w u, vs = [v, w, u] ∧ ItOk K ct Hs S s σ H v a ∧ ItOk K ct Hs S s σ H w b ∧ ItOk K ct Hs S s σ H u c := by
  cases h with | cons i r => cases r with | cons j r => cases r with | cons k r => cases r; exact ⟨_, _, _, rfl, i, j, k⟩
theorem jw_rng3 {ta : TA} {m : Mo (List AI)} (h : EaL K ct H0 W ta m) : Jw K ct H0 W (iRng3 ta) (mRng3 m) := fun S s σ H Q rel p =>
  h S s σ H _ rel (Pst.bind bW p fun S1 s1 H1 x a st1 rel1 i1 p1 => by
    split at p1
    · rename_i i j c
      obtain ⟨v, w, u, rfl, k1, k2, k3⟩ := as3 i1
      cases rp_int k1; cases rp_int k2; cases rp_int k3
      split at p1
      · rename_i hz
        exact ⟨i, j, c, _, rfl, hz, p1 S1 _ H1 .refl rel1 wk_rngC⟩
      · exact False.elim p1
    · exact False.elim p1)
/-- a list's value, walked -/
def ckOf : D → List D → Option (Nat × Cn)
  | .cid k, l => some (k, .lst l)
  | _, _ => none
theorem list_at {v : V} {d : D} {l : List D} {n : Nat} (rel : Rel K ct H0 S s σ H) (r : Rp K S.G S.α s.M.length v d) (e : listOf s.M d = some l) : ∃ p, v = .ref p ∧ ∀ S1 s1 σ1 H1, Stp S s.M.length H S1 s1.M.length H1 → Rel K ct H0 S1 s1 σ1 H1 → chk (ckOf d l) s1 →
    ∃ vs, SqL K H1 p vs ∧ RpL K S1.G S1.α s1.M.length vs l := by
  cases d with
  | lst l' => cases e; cases r with | lst h1 h2 => exact ⟨_, rfl, fun S1 s1 σ1 H1 st rel1 _ => ⟨_, .of (uL' (rel1.sub _ _ (st.g _ _ h1))), h2.step st⟩⟩
  | clst l' => cases e; cases r with | clst h1 h2 => exact ⟨_, rfl, fun S1 s1 σ1 H1 st rel1 _ => ⟨_, uSqL (rel1.sub.seq (st.g.seq h1)), h2.step st⟩⟩
  | cid k =>
    cases r with
    | cid hk =>
      refine ⟨_, rfl, fun S1 s1 σ1 H1 st rel1 c => ?_⟩
      have c1 : s1.M[k]? = some (.lst l) := c
      obtain ⟨vs, h1, h2⟩ := (rel1.ids k _ c1).2
      rw [st.al k hk] at h1
      exact ⟨vs, .of h1, h2⟩
  | _ => cases e
def mWL (m : Mo AI) : Mo Im := fun s => (mV m s).bind fun d s1 => match listOf s1.M d with
  | some l => .ok ⟨l, ckOf d l⟩ s1
  | none => .no
theorem jw_list {te : TE} {m : Mo AI} (h : Ei K ct H0 W te m) : Jw K ct H0 W (iList K te) (mWL m) := fun S s σ H Q rel p =>
  ev_of h S s σ H _ rel (Pst.bind bW p fun S1 s1 H1 x a st1 rel1 i1 p1 => by
    split at p1
    · rename_i l e
      have i1' : Rp K S1.G S1.α s1.M.length x a := i1
      have hv : viewL s1 (.val a) = some l := e
      obtain ⟨q0, vs0, e0, k1, _⟩ := viewL_ok (Hs := H) (a := .val a) rel1 i1' hv
      obtain ⟨q, rfl, k⟩ := list_at (n := 0) rel1 i1' e
      have e1 : q0 = q := by injection e0 with h; exact h.symm
      rw [e1] at k1
      refine ⟨q, rfl, ⟨vs0, k1⟩, p1 S1 _ H1 .refl rel1 fun S2 s2 σ2 H2 st2 rel2 c => ?_⟩
      obtain ⟨vs, h1, h2⟩ := k S2 s2 σ2 H2 st2 rel2 c
      refine ⟨fun i d e => ?_, ⟨vs, h1, by rw [h2.length]; exact Nat.le_refl _⟩⟩
      obtain ⟨v, e1, e2⟩ := h2.get e
      refine ⟨⟨vs, v, h1, e1⟩, fun x H3 hy => ?_⟩
      obtain ⟨rfl, hy⟩ := hy
      have := hy vs h1
      rw [e1] at this; cases this
      exact ⟨S2, .refl, rel2, e2⟩
    · exact False.elim p1)
def mWT (m : Mo AI) : Mo Im := fun s => (mV m s).bind fun d s1 => match tupOf d with
  | some l => .ok ⟨l, none⟩ s1
  | none => .no
theorem jw_tup {te : TE} {m : Mo AI} (h : Ei K ct H0 W te m) : Jw K ct H0 W (iTup K te) (mWT m) := fun S s σ H Q rel p =>
  ev_of h S s σ H _ rel (Pst.bind bW p fun S1 s1 H1 x a st1 rel1 i1 p1 => by
    split at p1
    · rename_i l e
      have i1' : Rp K S1.G S1.α s1.M.length x a := i1
      have key : ∃ q vs, x = .ref q ∧ SqT K S1.G q vs ∧ RpL K S1.G S1.α s1.M.length vs l := by
        cases a with
        | tup l' => cases e; cases i1' with | tup h1 h2 => exact ⟨_, _, rfl, .of h1, h2⟩
        | ctp l' => cases e; cases i1' with | ctp h1 h2 => exact ⟨_, _, rfl, h1, h2⟩
        | _ => cases e
      obtain ⟨q, vs, rfl, k1, k2⟩ := key
      refine ⟨q, rfl, ⟨vs, uSqT (st_mono rel1.sub k1)⟩, p1 S1 _ H1 .refl rel1 fun S2 s2 σ2 H2 st2 rel2 c => ?_⟩
      have h1 := uSqT (st_mono rel2.sub (st_mono st2.g k1))
      have h2 := k2.step st2
      refine ⟨fun i d e => ?_, ⟨vs, h1, by rw [h2.length]; exact Nat.le_refl _⟩⟩
      obtain ⟨v, e1, e2⟩ := h2.get e
      refine ⟨⟨vs, v, h1, e1⟩, fun x H3 hy => ?_⟩
      obtain ⟨rfl, hy⟩ := hy
      have := hy vs h1
      rw [e1] at this; cases this
      exact ⟨S2, .refl, rel2, e2⟩
    · exact False.elim p1)
def enumL (l : List D) : List D := l.zipIdx.map fun p => .tup [.int ((p.2 : Nat) : Int), p.1]
def mWE (m : Mo (List D)) : Mo Im := fun s => (m s).bind fun ds s1 => match ds with
  | [d] => match listOf s1.M d with
    | some l => .ok ⟨enumL l, ckOf d l⟩ s1
    | none => .no
  | _ => .no
/-- a pair made by an iterator -/
theorem new_tup {vs : List V} {l : List D} {q : Addr} (rel : Rel K ct H0 S s σ H) (hp : H q = none) (h : RpL K S.G S.α s.M.length vs l) : ∃ S2, Stp S s.M.length H S2 s.M.length (upd H q (.tup vs)) ∧ Rel K ct H0 S2 s σ (upd H q (.tup vs)) ∧ Rp K S2.G S2.α s.M.length (.ref q) (.tup l) := by
  have hg := rel.gN hp
  refine ⟨S.frz q (.tup vs), (Stp.new rel hp).frzNew hp hg, (rel.new hp).frz (uP upd_same) (rel.labN hp) hg, ?_⟩
  exact .tup upd_same (h.mono (fun a u e => by show upd S.G q _ a = _; rw [upd_ne (ne_of_none e hg)]; exact e) (fun _ _ => rfl) (Nat.le_refl _))
theorem jw_enum {ta : TA} {m : Mo (List D)} (h : EvL K ct H0 W ta m) : Jw K ct H0 W (iEnum K ta) (mWE m) := fun S s σ H Q rel p =>
  h S s σ H _ rel (Pst.bind bW p fun S1 s1 H1 x a st1 rel1 i1 p1 => by
    split at p1
    · rename_i d
      split at p1
      · rename_i l e
        cases i1 with
        | cons i1' r =>
          cases r
          have hv : viewL s1 (.val d) = some l := e
          obtain ⟨q0, vs0, e0, k1, _⟩ := viewL_ok (Hs := H) (a := .val d) rel1 i1' hv
          obtain ⟨q, rfl, k⟩ := list_at (n := 0) rel1 i1' e
          have e1 : q0 = q := by injection e0 with h; exact h.symm
          rw [e1] at k1
          refine ⟨q, vs0, rfl, k1, p1 S1 _ H1 .refl rel1 fun S2 s2 σ2 H2 st2 rel2 c => ?_⟩
          obtain ⟨vs, h1, h2⟩ := k S2 s2 σ2 H2 st2 rel2 c
          refine ⟨fun i d e => ?_, ⟨vs, h1, by rw [h2.length]; show _ ≤ (enumL l).length; unfold enumL; rw [List.length_map, List.length_zipIdx]; exact Nat.le_refl _⟩⟩
          have e' : ((l.zipIdx).map fun p => D.tup [.int ((p.2 : Nat) : Int), p.1])[i]? = some d := e
          rw [List.getElem?_map, List.getElem?_zipIdx] at e'
          obtain ⟨pr, e2, rfl⟩ := Option.map_eq_some_iff.mp e'
          obtain ⟨y, e3, rfl⟩ := Option.map_eq_some_iff.mp e2
          obtain ⟨v, e4, e5⟩ := h2.get e3
          refine ⟨⟨vs, v, h1, e4⟩, fun x H3 hy => ?_⟩
          obtain ⟨T, x0, rfl, hT, rfl, hx⟩ := hy
          have := hx vs h1
          rw [e4] at this; cases this
          rw [Nat.zero_add]
          exact new_tup rel2 hT (.cons (.int _) (.cons e5 .nil))
      · exact False.elim p1
    · exact False.elim p1)
def zipL (l l' : List D) : List D := (l.zip l').map fun p => .tup [p.1, p.2]
/-- only what is frozen is walked two by two -/
def mWZ (m : Mo (List D)) : Mo Im := fun s => (m s).bind fun ds s1 => match ds with
  | [.lst l, .lst l'] => .ok ⟨zipL l l', none⟩ s1
  | [.lst l, .clst l'] => .ok ⟨zipL l l', none⟩ s1
  | [.clst l, .lst l'] => .ok ⟨zipL l l', none⟩ s1
  | _ => .no
theorem jw_zip {ta : TA} {m : Mo (List D)} (h : EvL K ct H0 W ta m) : Jw K ct H0 W (iZip K ta) (mWZ m) := fun S s σ H Q rel p => by
  have key : ∀ {S1 : Sh} {s1 : Stt} {H1 : Hp} {x : List V} {d d' : D} {l l' : List D}, Rel K ct H0 S1 s1 σ H1 → RpL K S1.G S1.α s1.M.length x [d, d'] → (d = .lst l ∨ d = .clst l) → (d' = .lst l' ∨ d' = .clst l') → ∃ q q' us us', x = [.ref q, .ref q'] ∧ SqL K S1.G q us ∧ SqL K S1.G q' us' ∧ RpL K S1.G S1.α s1.M.length us l ∧ RpL K S1.G S1.α s1.M.length us' l' := by
    intro S1 s1 H1 x d d' l l' rel1 r e e'
    cases r with
    | cons a r =>
      cases r with
      | cons b r =>
        cases r
        have f : ∀ {d : D} {l : List D} {v : V}, Rp K S1.G S1.α s1.M.length v d → (d = .lst l ∨ d = .clst l) → ∃ q us, v = .ref q ∧ SqL K S1.G q us ∧ RpL K S1.G S1.α s1.M.length us l := by
          intro d l v a e
          rcases e with rfl | rfl
          · cases a with | lst h1 h2 => exact ⟨_, _, rfl, .of h1, h2⟩
          · cases a with | clst h1 h2 => exact ⟨_, _, rfl, h1, h2⟩
        obtain ⟨q, us, rfl, k1, k2⟩ := f a e
        obtain ⟨q', us', rfl, k1', k2'⟩ := f b e'
        exact ⟨q, q', us, us', rfl, k1, k1', k2, k2'⟩
  refine h S s σ H _ rel (Pst.bind bW p fun S1 s1 H1 x a st1 rel1 i1 p1 => ?_)
  have fin : ∀ {d d' : D} {l l' : List D}, a = [d, d'] → (d = .lst l ∨ d = .clst l) → (d' = .lst l' ∨ d' = .clst l') → Pst K ct H0 (RW K ct H0) W S1 s1 σ H1 Q (.ok ⟨zipL l l', none⟩ s1) → ∃ a b xs ys, x = [.ref a, .ref b] ∧ SqL K H1 a xs ∧ SqL K H1 b ys ∧ Q (Itz K a b) H1 := by
    intro d d' l l' ea e e' pp
    rw [ea] at i1
    obtain ⟨q, q', us, us', rfl, k1, k1', k2, k2'⟩ := key rel1 i1 e e'
    refine ⟨q, q', us, us', rfl, uSqL (rel1.sub.seq k1), uSqL (rel1.sub.seq k1'), pp S1 _ H1 .refl rel1 fun S2 s2 σ2 H2 st2 rel2 c => ?_⟩
    have h1 := uSqL (rel2.sub.seq (st2.g.seq k1))
    have h1' := uSqL (rel2.sub.seq (st2.g.seq k1'))
    have h2 := k2.step st2
    have h2' := k2'.step st2
    refine ⟨fun i d e => ?_, ⟨us, us', h1, h1', ?_⟩⟩
    · have e0 : ((l.zip l').map fun p => D.tup [p.1, p.2])[i]? = some d := e
      rw [List.getElem?_map] at e0
      obtain ⟨pr, e2, rfl⟩ := Option.map_eq_some_iff.mp e0
      obtain ⟨e3, e4⟩ := List.getElem?_zip_eq_some.mp e2
      obtain ⟨v, f1, f2⟩ := h2.get e3
      obtain ⟨v', f1', f2'⟩ := h2'.get e4
      refine ⟨⟨us, us', v, v', h1, h1', f1, f1'⟩, fun x H3 hy => ?_⟩
      obtain ⟨T, y, y', rfl, hT, rfl, hx, hx'⟩ := hy
      have g1 := hx us h1
      have g2 := hx' us' h1'
      rw [f1] at g1; cases g1
      rw [f1'] at g2; cases g2
      exact new_tup rel2 hT (.cons f2 (.cons f2' .nil))
    · show us.length ≤ (zipL l l').length ∨ us'.length ≤ (zipL l l').length
      unfold zipL
      rw [List.length_map, List.length_zip, h2.length, h2'.length]
      omega
  split at p1
  · exact fin rfl (.inl rfl) (.inl rfl) p1
  · exact fin rfl (.inl rfl) (.inr rfl) p1
  · exact fin rfl (.inr rfl) (.inl rfl) p1
  · exact False.elim p1
def strL (x : Str) : List D := x.cps.toList.map fun c => .str ⟨#[c]⟩
def mWS (m : Mo AI) : Mo Im := fun s => (m s).bind fun a s1 => match a with
  | .val (.str x) => .ok ⟨strL x, none⟩ s1
  | _ => .no
theorem jw_str {te : TE} {m : Mo AI} (h : Ei K ct H0 W te m) : Jw K ct H0 W (iStr te) (mWS m) := fun S s σ H Q rel p =>
  h S s σ H _ rel (Pst.bind bW p fun S1 s1 H1 x a st1 rel1 i1 p1 => by
    split at p1
    · rename_i z
      cases rp_str i1
      refine ⟨z, rfl, p1 S1 _ H1 .refl rel1 fun S2 s2 σ2 H2 st2 rel2 c => ?_⟩
      refine ⟨fun i d e => ?_, ?_⟩
      · have e0 : (z.cps.toList.map fun c => D.str ⟨#[c]⟩)[i]? = some d := e
        rw [List.getElem?_map] at e0
        obtain ⟨y, e2, rfl⟩ := Option.map_eq_some_iff.mp e0
        have e3 : z.cps[i]? = some y := by rw [← Array.getElem?_toList]; exact e2
        refine ⟨(Array.getElem?_eq_some_iff.mp e3).1, fun x H3 hy => ?_⟩
        obtain ⟨rfl, c, hc, rfl⟩ := hy
        rw [e3] at hc; cases hc
        exact ⟨S2, .refl, rel2, .str _⟩
      · show z.cps.size ≤ (strL z).length
        unfold strL; rw [List.length_map, Array.length_toList]; exact Nat.le_refl _
    · exact False.elim p1)
/-! ## for -/
open Classical in
noncomputable def forN (g : Tg) (b : Ms) (ck : Option (Nat × Cn)) : List D → Ms
  | [], s => if chk ck s then .nx s else .no
  | x :: xs, s => if chk ck s then (match g x s with
    | none => .no
    | some s1 => match b s1 with
      | .nx s2 => forN g b ck xs s2
      | .ct s2 => forN g b ck xs s2
      | .bk s2 => .nx s2
      | .rt a s2 => .rt a s2
      | .er x s2 => .er x s2
      | .no => .no) else .no
noncomputable def mFor (mi : Mo Im) (g : Tg) (b : Ms) : Ms := fun s => (mi s).toS fun im s1 => forN g b im.ck im.xs s1
theorem sv_for {js : List Nat} {wi : TI} {g : TG} {tb : TS} {mi : Mo Im} {f : Tg} {b : Ms} (hi : Jw K ct H0 W wi mi) (hg : Sg K ct H0 js g f) (hb : Sv K ct H0 W tb b) : Sv K ct H0 W (tFor wi g tb) (mFor mi f b) := fun S s σ H Dn rel p =>
  hi S s σ H _ rel (PstS.bind p fun S1 s1 H1 J im st1 rel1 wk p1 => by
    have p1 := PstS.from p1 st1
    generalize hR : forN f b im.ck im.xs s1 = R at p1
    refine ⟨fun i m σ' H' => m = im.xs.length - i ∧ ∃ S' s', Stp S1 s1.M.length H1 S' s'.M.length H' ∧ Rel K ct H0 S' s' σ' H' ∧ i ≤ im.xs.length ∧ forN f b im.ck (im.xs.drop i) s' = R, ⟨im.xs.length, rfl, S1, s1, .refl, rel1, Nat.zero_le _, hR⟩, ?_⟩
    rintro i m σ' H' ⟨rfl, S', s', st', rel', hi', hr⟩
    have nno : R ≠ .no := fun z => by rw [z] at p1; exact p1
    by_cases hlt : i < im.xs.length
    · have e := List.drop_eq_getElem_cons hlt
      rw [e] at hr
      have hx : im.xs[i]? = some im.xs[i] := List.getElem?_eq_getElem hlt
      generalize im.xs[i] = d at e hr hx
      unfold forN at hr
      have hc : chk im.ck s' := Classical.byContradiction fun z => by rw [if_neg z] at hr; exact nno hr.symm
      rw [if_pos hc] at hr
      obtain ⟨go, yl⟩ := (wk S' s' σ' H' st' rel' hc).1 i d hx
      refine .inr ⟨go, fun σ2 H2 => ∃ S2 s2, Stp S1 s1.M.length H1 S2 s2.M.length H2 ∧ Rel K ct H0 S2 s2 σ2 H2 ∧ forN f b im.ck (im.xs.drop (i + 1)) s2 = R, ?_, ?_⟩
      · rintro σ2 H2 ⟨S2, s2, k1, k2, k3⟩
        exact ⟨im.xs.length - (i + 1), by omega, rfl, S2, s2, k1, k2, hlt, k3⟩
      · intro x H2 hy
        obtain ⟨S2, st2, rel2, rp2⟩ := yl x H2 hy
        cases hs : f d s' with
        | none => rw [hs] at hr; exact absurd hr.symm nno
        | some s2 =>
          rw [hs] at hr
          refine hg S2 s' σ' H2 x d s2 _ rel2 rp2 hs fun S3 σ3 st3 rel3 _ _ _ => ?_
          have stt := (st'.trans st2).trans st3
          refine hb S3 s2 σ3 H2 _ rel3 ?_
          have hr : (match b s2 with | .nx s2 => forN f b im.ck (im.xs.drop (i + 1)) s2 | .ct s2 => forN f b im.ck (im.xs.drop (i + 1)) s2 | .bk s2 => .nx s2 | .rt a s2 => .rt a s2 | .er x s2 => .er x s2 | .no => .no) = R := hr
          cases hbs : b s2 with
          | nx s4 => rw [hbs] at hr; exact fun S4 σ4 H4 st4 rel4 => ⟨S4, s4, stt.trans st4, rel4, hr⟩
          | ct s4 => rw [hbs] at hr; exact fun S4 σ4 H4 st4 rel4 => ⟨S4, s4, stt.trans st4, rel4, hr⟩
          | bk s4 => rw [hbs] at hr; subst hr; exact fun S4 σ4 H4 st4 rel4 => p1 S4 σ4 H4 (stt.trans st4) rel4
          | rt a s4 => rw [hbs] at hr; subst hr; exact fun S4 σ4 v H4 st4 rel4 q => p1 S4 σ4 v H4 (stt.trans st4) rel4 q
          | er x s4 => rw [hbs] at hr; subst hr; exact fun S4 σ4 H4 dd st4 rel4 q => p1 S4 σ4 H4 dd (stt.trans st4) rel4 q
          | no => rw [hbs] at hr; exact absurd hr.symm nno
    · have e : im.xs.drop i = [] := List.drop_eq_nil_of_le (by omega)
      rw [e] at hr
      unfold forN at hr
      have hc : chk im.ck s' := Classical.byContradiction fun z => by rw [if_neg z] at hr; exact nno hr.symm
      rw [if_pos hc] at hr
      have ei : i = im.xs.length := by omega
      subst hr
      refine .inl ⟨?_, p1 S' σ' H' st' rel'⟩
      rw [ei]
      exact (wk S' s' σ' H' st' rel' hc).2)
/-! ## while -/
def whN (c : Mo Bool) (b : Ms) : Nat → Ms
  | 0, _ => .no
  | n + 1, s => (c s).toS fun k s1 => if k = true then (match b s1 with
    | .nx s2 => whN c b n s2
    | .ct s2 => whN c b n s2
    | .bk s2 => .nx s2
    | .rt a s2 => .rt a s2
    | .er x s2 => .er x s2
    | .no => .no) else .nx s1
theorem whN_mono {c : Mo Bool} {b : Ms} : ∀ {n : Nat} {s : Stt} {r : Rs}, whN c b n s = r → r ≠ .no → whN c b (n + 1) s = r
  | 0, s, r, h, nr => absurd h.symm nr
  | n + 1, s, r, h, nr => by
    unfold whN at h ⊢
    cases hc : c s with
    | no => rw [hc] at h; exact absurd h.symm nr
    | er x s1 => rw [hc] at h; exact h
    | ok k s1 =>
      rw [hc] at h
      have h : (if k = true then (match b s1 with | .nx s2 => whN c b n s2 | .ct s2 => whN c b n s2 | .bk s2 => .nx s2 | .rt a s2 => .rt a s2 | .er x s2 => .er x s2 | .no => .no) else Rs.nx s1) = r := h
      show (if k = true then (match b s1 with | .nx s2 => whN c b (n + 1) s2 | .ct s2 => whN c b (n + 1) s2 | .bk s2 => .nx s2 | .rt a s2 => .rt a s2 | .er x s2 => .er x s2 | .no => .no) else Rs.nx s1) = r
      cases k with
      | false => rw [if_neg Bool.false_ne_true] at h ⊢; exact h
      | true =>
        rw [if_pos rfl] at h ⊢
        cases hb : b s1 with
        | nx s2 => rw [hb] at h; exact whN_mono h nr
        | ct s2 => rw [hb] at h; exact whN_mono h nr
        | bk s2 => rw [hb] at h; exact h
        | rt a s2 => rw [hb] at h; exact h
        | er x s2 => rw [hb] at h; exact h
        | no => rw [hb] at h; exact h
theorem whN_le {c : Mo Bool} {b : Ms} {n m : Nat} {s : Stt} {r : Rs} (h : whN c b n s = r) (nr : r ≠ .no) (hl : n ≤ m) : whN c b m s = r := by
  obtain ⟨d, rfl⟩ := Nat.exists_eq_add_of_le hl
  induction d with
  | zero => exact h
  | succ d ih => exact whN_mono (ih (by omega)) nr
open Classical in
noncomputable def mWh (c : Mo Bool) (b : Ms) : Ms := fun s => if h : ∃ n, whN c b n s ≠ .no then whN c b (Classical.choose h) s else .no
theorem mWh_eq {c : Mo Bool} {b : Ms} {n : Nat} {s : Stt} {r : Rs} (h : whN c b n s = r) (nr : r ≠ .no) : mWh c b s = r := by
  have e : ∃ n, whN c b n s ≠ .no := ⟨n, by rw [h]; exact nr⟩
  unfold mWh
  rw [dif_pos e]
  have k := Classical.choose_spec e
  rcases Nat.le_total n (Classical.choose e) with l | l
  · exact whN_le h nr l
  · rw [← h]; exact (whN_le rfl k l).symm
theorem sv_while {c : TT} {tb : TS} {mc : Mo Bool} {b : Ms} (hc : Et K ct H0 W c mc) (hb : Sv K ct H0 W tb b) : Sv K ct H0 W (tWhile c tb) (mWh mc b) := fun S s σ H Dn rel p => by
  unfold mWh at p
  split at p
  · rename_i h
    have nno := Classical.choose_spec h
    generalize hR : whN mc b (Classical.choose h) s = R at p nno
    refine ⟨fun m σ' H' => ∃ S' s', Stp S s.M.length H S' s'.M.length H' ∧ Rel K ct H0 S' s' σ' H' ∧ whN mc b m s' = R, ⟨_, S, s, .refl, rel, hR⟩, ?_⟩
    rintro m σ' H' ⟨S', s', st', rel', hr⟩
    cases m with
    | zero => exact absurd hr.symm nno
    | succ m =>
      unfold whN at hr
      refine hc S' s' σ' H' _ rel' ?_
      cases hcs : mc s' with
      | no => rw [hcs] at hr; exact absurd hr.symm nno
      | er x s1 => rw [hcs] at hr; have hr : Rs.er x s1 = R := hr; subst hr; exact fun S1 H1 dd st1 rel1 q => p S1 σ' H1 dd (st'.trans st1) rel1 q
      | ok k s1 =>
        rw [hcs] at hr
        intro S1 k' H1 st1 rel1 ek
        have ek : k' = k := ek
        rw [ek]
        clear ek
        have hr : (if k = true then (match b s1 with | .nx s2 => whN mc b m s2 | .ct s2 => whN mc b m s2 | .bk s2 => .nx s2 | .rt a s2 => .rt a s2 | .er x s2 => .er x s2 | .no => .no) else Rs.nx s1) = R := hr
        cases k with
        | false => rw [if_neg Bool.false_ne_true] at hr ⊢; subst hr; exact p S1 σ' H1 (st'.trans st1) rel1
        | true =>
          rw [if_pos rfl] at hr ⊢
          refine ⟨fun σ2 H2 => ∃ S2 s2, Stp S s.M.length H S2 s2.M.length H2 ∧ Rel K ct H0 S2 s2 σ2 H2 ∧ whN mc b m s2 = R, fun σ2 H2 ⟨S2, s2, k1, k2, k3⟩ => ⟨m, Nat.lt_succ_self m, S2, s2, k1, k2, k3⟩, ?_⟩
          have stt := st'.trans st1
          refine hb S1 s1 σ' H1 _ rel1 ?_
          cases hbs : b s1 with
          | nx s4 => rw [hbs] at hr; exact fun S4 σ4 H4 st4 rel4 => ⟨S4, s4, stt.trans st4, rel4, hr⟩
          | ct s4 => rw [hbs] at hr; exact fun S4 σ4 H4 st4 rel4 => ⟨S4, s4, stt.trans st4, rel4, hr⟩
          | bk s4 => rw [hbs] at hr; subst hr; exact fun S4 σ4 H4 st4 rel4 => p S4 σ4 H4 (stt.trans st4) rel4
          | rt a s4 => rw [hbs] at hr; subst hr; exact fun S4 σ4 v H4 st4 rel4 q => p S4 σ4 v H4 (stt.trans st4) rel4 q
          | er x s4 => rw [hbs] at hr; subst hr; exact fun S4 σ4 H4 dd st4 rel4 q => p S4 σ4 H4 dd (stt.trans st4) rel4 q
          | no => rw [hbs] at hr; exact absurd hr.symm nno
  · exact False.elim p
end
end Y

namespace Y
open PySem L2 Z
/-! ## comprehensions -/
def wipeE (env : List (Option Ent)) : List Nat → List (Option Ent)
  | [] => env
  | v :: vs => (wipeE env vs).set v none
def wipeS (ws : List Nat) (s : Stt) : Stt := ⟨wipeE s.env ws, s.M⟩
def kp : Option (Option Ent) → Option Ent
  | some (some (.fz d)) => some (.fz d)
  | _ => none
def rest (e0 e' : List (Option Ent)) : List Nat → List (Option Ent)
  | [] => e'
  | v :: vs => (rest e0 e' vs).set v (kp e0[v]?)
theorem rest_len {e0 e' : List (Option Ent)} : ∀ {ws : List Nat}, (rest e0 e' ws).length = e'.length
  | [] => rfl
  | v :: vs => by show ((rest e0 e' vs).set v _).length = _; rw [List.length_set]; exact rest_len
theorem rest_get {e0 e' : List (Option Ent)} {i : Nat} {en : Ent} : ∀ {ws : List Nat}, (rest e0 e' ws)[i]? = some (some en) → (∃ d, en = .fz d ∧ e0[i]? = some (some (.fz d))) ∨ (i ∉ ws ∧ e'[i]? = some (some en))
  | [], h => .inr ⟨by simp, h⟩
  | v :: vs, h => by
    have h1 : ((rest e0 e' vs).set v (kp e0[v]?))[i]? = some (some en) := h
    by_cases e : v = i
    · subst e
      have hl : v < (rest e0 e' vs).length := by
        have := (List.getElem?_eq_some_iff.mp h1).1
        rw [List.length_set] at this; exact this
      rw [List.getElem?_set_self hl] at h1
      have h2 : kp e0[v]? = some en := Option.some.inj h1
      unfold kp at h2
      split at h2
      · rename_i d q; cases h2; exact .inl ⟨d, rfl, q⟩
      · cases h2
    · rw [List.getElem?_set_ne e] at h1
      rcases rest_get h1 with k | ⟨k1, k2⟩
      · exact .inl k
      · exact .inr ⟨by simp; exact ⟨fun z => e z.symm, k1⟩, k2⟩
section
variable {K : PySem.W.Frag} {ct : Ct} {H0 : Hp} {W : WX} {S : Sh} {s : Stt} {σ : St} {H : Hp}
theorem Rel.setN2 {i : Nat} (r : Rel K ct H0 S s σ H) : Rel K ct H0 (S.un i) ⟨s.env.set i none, s.M⟩ (σ.set i none) H := by
  refine ⟨r.sub, fun a l q => r.lg a l (un_of q), r.dom, by rw [List.length_set]; show _ = (s.env.set i _).length; rw [List.length_set]; exact r.len, fun j en q => ?_, fun k c q => ?_⟩
  · have q1 : (s.env.set i none)[j]? = some (some en) := q
    by_cases z : i = j
    · subst z
      have hlt : i < s.env.length := by
        have := (List.getElem?_eq_some_iff.mp q1).1
        rw [List.length_set] at this; exact this
      rw [List.getElem?_set_self hlt] at q1
      cases q1
    · rw [List.getElem?_set_ne z] at q1
      have hh := r.slot j en q1
      cases en with
      | fz d' => obtain ⟨w, k1, k2⟩ := hh; exact ⟨w, by rw [List.getElem?_set_ne z]; exact k1, k2⟩
      | xn x => exact xn_mono (S := S) (n := s.M.length) (H := H) (fun _ _ e => e) (fun _ _ => rfl) (Nat.le_refl _) (List.getElem?_set_ne z) hh
      | ow c =>
        obtain ⟨p, k1, k2, k3, k4, k5⟩ := hh
        exact ⟨p, by rw [List.getElem?_set_ne z]; exact k1, k2, un_lab k3 (fun w => by cases w; exact z rfl), k4, cn_un k5⟩
  · obtain ⟨k1, k2⟩ := r.ids k c q
    exact ⟨un_lab k1 (fun w => by cases w), cn_un k2⟩
theorem Rel.wipe (r : Rel K ct H0 S s σ H) : ∀ ws : List Nat, ∃ S', Rel K ct H0 S' (wipeS ws s) (wipe σ ws) H ∧ Stp S s.M.length H S' s.M.length H ∧ S'.G = S.G ∧ S'.α = S.α ∧ ∀ a, S.lab a = none → S'.lab a = none
  | [] => ⟨S, r, .refl, rfl, rfl, fun _ h => h⟩
  | v :: vs => by
    obtain ⟨S', r', st, hg, ha, hl⟩ := r.wipe vs
    refine ⟨S'.un v, r'.setN2, st.trans .un, hg, ha, fun a h => ?_⟩
    show (if S'.lab a = some (.slot v) then none else S'.lab a) = none
    rw [hl a h]; rfl
theorem Rel.rest {S' : Sh} {s' : Stt} {H' : Hp} {ws : List Nat} (r0 : Rel K ct H0 S s σ H) (st : Stp S s.M.length H S' s'.M.length H') (r : Rel K ct H0 S' s' (L2.wipe σ ws) H') : Rel K ct H0 S' ⟨rest s.env s'.env ws, s'.M⟩ σ H' := by
  refine ⟨r.sub, r.lg, r.dom, by show _ = (Y.rest _ _ _).length; rw [rest_len, ← r.len, wipe_length], fun j en q => ?_, r.ids⟩
  rcases rest_get q with ⟨d, rfl, k⟩ | ⟨k1, k2⟩
  · obtain ⟨v, h1, h2⟩ := r0.slot j _ k
    exact ⟨v, h1, h2.step st⟩
  · have hh := r.slot j en k2
    cases en with
    | fz d => obtain ⟨v, h1, h2⟩ := hh; exact ⟨v, by rw [← wipe_out k1]; exact h1, h2⟩
    | xn x => exact xn_mono (S := S') (n := s'.M.length) (H := H') (fun _ _ e => e) (fun _ _ => rfl) (Nat.le_refl _) (wipe_out k1).symm hh
    | ow c => obtain ⟨p, h1, h2, h3, h4, h5⟩ := hh; exact ⟨p, by rw [← wipe_out k1]; exact h1, h2, h3, h4, h5⟩
/-- what nobody has is changed -/
theorem Rel.updU {p : Addr} {o : HO} (r : Rel K ct H0 S s σ H) (hl : S.lab p = none) (hg : S.G p = none) : Rel K ct H0 S s σ (upd H p o) := by
  have cn : ∀ {a : Addr} {c : Cn} {l : Lab}, S.lab a = some l → CnOk K ct S s.M.length H a c → CnOk K ct S s.M.length (upd H p o) a c := fun {a c l} q h => h.mono (fun _ _ e => e) (fun _ _ => rfl) (Nat.le_refl _) (fun _ e => by rw [upd_ne (fun z => by subst z; rw [hl] at q; cases q)]; exact e)
  refine ⟨fun a u e => by rw [U_ne (ne_of_none e hg)]; exact r.sub a u e, fun a l e => ?_, fun a e => r.dom a (upd_none.mp e).2, r.len, fun i e h => ?_, fun k c h => ?_⟩
  · obtain ⟨h1, u, h2⟩ := r.lg a l e
    exact ⟨h1, u, by rw [upd_ne (fun z => by subst z; rw [hl] at e; cases e)]; exact h2⟩
  · have q := r.slot i e h
    cases e with
    | fz d => exact q
    | xn x => exact xn_mono (S := S) (n := s.M.length) (H := H) (fun _ _ e => e) (fun _ _ => rfl) (Nat.le_refl _) rfl q
    | ow c =>
      obtain ⟨a, h1, h2, h3, h4, h5⟩ := q
      exact ⟨a, h1, h2, h3, h4, cn h3 h5⟩
  · obtain ⟨h1, h2⟩ := r.ids k c h
    exact ⟨h1, cn h1 h2⟩
theorem Stp.updNew {S' : Sh} {n n' : Nat} {H' : Hp} {p : Addr} {o : HO} (t : Stp S n H S' n' H') (hp : H p = none) : Stp S n H S' n' (upd H' p o) where
  g := t.g
  le := t.le
  al := t.al
  fr := fun a u h l => by
    obtain ⟨h1, h2⟩ := t.fr a u h l
    exact ⟨by rw [upd_ne (ne_of_none h hp)]; exact h1, h2⟩
  gn := t.gn
  dom := fun a e => t.dom a (upd_none.mp e).2
def W0 : WX := fun _ _ _ _ => False
open Classical in
noncomputable def lcN (ws : List Nat) (g : Tg) (c : Mo Bool) (e : Mo D) (ck : Option (Nat × Cn)) : List D → List D → Mo (List D)
  | [], acc, s => if chk ck s then .ok acc s else .no
  | x :: xs, acc, s => if chk ck s then (match g x s with
    | none => .no
    | some s1 => match c s1 with
      | .ok b s2 => if b = true then (match e s2 with
        | .ok d s3 => if acc.length < sizeLine then lcN ws g c e ck xs (acc ++ [d]) (wipeS ws s3) else .no
        | _ => .no) else lcN ws g c e ck xs acc (wipeS ws s2)
      | _ => .no) else .no
noncomputable def mLc (ws : List Nat) (mi : Mo Im) (g : Tg) (c : Mo Bool) (e : Mo AI) : Mo AI := fun s => (mi s).bind fun im s1 => match lcN ws g c (mV e) im.ck im.xs [] (wipeS ws s1) with
  | .ok l s2 => .ok (.new (.lst l)) ⟨rest s1.env s2.env ws, s2.M⟩
  | _ => .no
def mYes : Mo Bool := fun s => .ok true s
theorem et_yes : Et K ct H0 W tYes mYes := fun S s σ H Q rel p => p S true H .refl rel rfl
theorem ei_lcAt {js ws : List Nat} {wi : TI} {g : TG} {tt : TT} {te : TE} {mi : Mo Im} {f : Tg} {c : Mo Bool} {e : Mo AI} {S : Sh} {s : Stt} {σ : St} {H : Hp} {Q : VK} (hi : ∀ R, Pst K ct H0 (RW K ct H0) W S s σ H R (mi s) → wi σ H R) (hg : Sg K ct H0 js g f) (hjs : ∀ j ∈ js, j ∈ ws) (hc : Et K ct H0 W0 tt c) (he : Ei K ct H0 W0 te e)
    (p : Pst K ct H0 (RI K ct) W S s σ H Q (mLc ws mi f c e s)) : tLc wi g tt te ws σ H Q :=
  hi _ (Pst.bind bI p fun S1 s1 H1 J im st1 rel1 wk p1 => by
    intro D hD
    generalize hR : lcN ws f c (mV e) im.ck im.xs [] (wipeS ws s1) = R at p1
    cases R with
    | no => exact False.elim p1
    | er x s2 => exact False.elim p1
    | ok l s2 =>
      have p1 : Pst K ct H0 (RI K ct) W S1 s1 σ H1 Q (.ok (.new (.lst l)) ⟨rest s1.env s2.env ws, s2.M⟩) := p1
      obtain ⟨S1', rel1', st1', hg1, ha1, hl1⟩ := rel1.wipe ws
      refine ⟨fun i m H' => m = im.xs.length - i ∧ i ≤ im.xs.length ∧ ∃ S' s' acc accV, Stp S1 s1.M.length H1 S' s'.M.length H' ∧ Rel K ct H0 S' s' (wipe σ ws) H' ∧ H' D = some (.lst accV) ∧ S'.lab D = none ∧ S'.G D = none ∧ RpL K S'.G S'.α s'.M.length accV acc ∧ lcN ws f c (mV e) im.ck (im.xs.drop i) acc s' = .ok l s2, ⟨im.xs.length, rfl, Nat.zero_le _, S1', wipeS ws s1, [], [], st1'.updNew hD, rel1'.new hD, upd_same, rel1'.labN hD, rel1'.gN hD, .nil, hR⟩, ?_⟩
      rintro i m H' ⟨rfl, hi', S', s', acc, accV, st', rel', hDl, hDlab, hDg, rl, hr⟩
      by_cases hlt : i < im.xs.length
      · have ex := List.drop_eq_getElem_cons hlt
        rw [ex] at hr
        have hx : im.xs[i]? = some im.xs[i] := List.getElem?_eq_getElem hlt
        generalize im.xs[i] = d at ex hr hx
        unfold lcN at hr
        have hck : chk im.ck s' := Classical.byContradiction fun z => by rw [if_neg z] at hr; cases hr
        rw [if_pos hck] at hr
        obtain ⟨go, yl⟩ := (wk S' s' _ H' st' rel' hck).1 i d hx
        refine .inr ⟨go, fun H2 => ∃ S2 s3 acc accV, Stp S1 s1.M.length H1 S2 s3.M.length H2 ∧ Rel K ct H0 S2 s3 (wipe σ ws) H2 ∧ H2 D = some (.lst accV) ∧ S2.lab D = none ∧ S2.G D = none ∧ RpL K S2.G S2.α s3.M.length accV acc ∧ lcN ws f c (mV e) im.ck (im.xs.drop (i + 1)) acc s3 = .ok l s2, ?_, ?_⟩
        · rintro H2 ⟨S2, s3, acc', accV', k⟩
          exact ⟨im.xs.length - (i + 1), by omega, rfl, hlt, S2, s3, acc', accV', k⟩
        · intro x H2 hy
          obtain ⟨S2, st2, rel2, rp2⟩ := yl x H2 hy
          cases hs : f d s' with
          | none => rw [hs] at hr; cases hr
          | some s3 =>
            rw [hs] at hr
            refine hg S2 s' _ H2 x d s3 _ rel2 rp2 hs fun S3 σ3 st3 rel3 kk _ _ => ?_
            have hw : wipe σ3 ws = wipe σ ws := by
              rw [kk ws hjs]
              refine List.ext_getElem? fun k => ?_
              by_cases hk : k ∈ ws
              · by_cases hl : k < σ.length
                · rw [wipe_in hk (by rw [wipe_length]; exact hl), wipe_in hk hl]
                · rw [List.getElem?_eq_none_iff.mpr (by rw [wipe_length, wipe_length]; omega), List.getElem?_eq_none_iff.mpr (by rw [wipe_length]; omega)]
              · rw [wipe_out hk]
            refine ⟨hw, ?_⟩
            have stt := (st'.trans st2).trans st3
            have str := (st2.trans st3)
            obtain ⟨d3, l3⟩ := str.fr D _ hDl hDlab
            refine hc S3 s3 σ3 H2 _ rel3 ?_
            have hr : (match c s3 with | .ok b s2 => if b = true then (match mV e s2 with | .ok d s3 => if acc.length < sizeLine then lcN ws f c (mV e) im.ck (im.xs.drop (i + 1)) (acc ++ [d]) (wipeS ws s3) else .no | _ => .no) else lcN ws f c (mV e) im.ck (im.xs.drop (i + 1)) acc (wipeS ws s2) | _ => .no) = Ro.ok l s2 := hr
            have gD : ∀ {Sx : Sh} {nx : Nat} {Hx : Hp}, Stp S' s'.M.length H' Sx nx Hx → Sx.G D = none := fun {Sx nx Hx} t => by
              cases q : Sx.G D with
              | none => rfl
              | some u =>
                rcases t.gn D u q with z | z | ⟨lb, z⟩
                · rw [hDg] at z; cases z
                · rw [hDl] at z; cases z
                · rw [hDlab] at z; cases z
            cases hcs : c s3 with
            | no => rw [hcs] at hr; cases hr
            | er x s4 => rw [hcs] at hr; cases hr
            | ok b s4 =>
              rw [hcs] at hr
              intro S4 b' H4 st4 rel4 eb
              have eb : b' = b := eb
              rw [eb]
              have str4 := str.trans st4
              obtain ⟨d4, l4⟩ := str4.fr D _ hDl hDlab
              cases b with
              | false =>
                rw [if_neg Bool.false_ne_true]
                have hr : lcN ws f c (mV e) im.ck (im.xs.drop (i + 1)) acc (wipeS ws s4) = .ok l s2 := hr
                obtain ⟨S5, rel5, st5, hg5, ha5, hl5⟩ := rel4.wipe ws
                rw [hw] at rel5
                exact ⟨S5, wipeS ws s4, acc, accV, (stt.trans st4).trans st5, rel5, d4, hl5 _ l4, gD (str4.trans st5), rl.step (str4.trans st5), hr⟩
              | true =>
                rw [if_pos rfl]
                have hr : (match mV e s4 with | .ok d s3 => if acc.length < sizeLine then lcN ws f c (mV e) im.ck (im.xs.drop (i + 1)) (acc ++ [d]) (wipeS ws s3) else .no | _ => .no) = Ro.ok l s2 := hr
                refine ev_of he S4 s4 σ3 H4 _ rel4 ?_
                cases hes : mV e s4 with
                | no => rw [hes] at hr; cases hr
                | er x s5 => rw [hes] at hr; cases hr
                | ok d' s5 =>
                  rw [hes] at hr
                  have hr : (if acc.length < sizeLine then lcN ws f c (mV e) im.ck (im.xs.drop (i + 1)) (acc ++ [d']) (wipeS ws s5) else .no) = Ro.ok l s2 := hr
                  intro S5 y H5 st5 rel5 rp5
                  have str5 := str4.trans st5
                  obtain ⟨d5, l5⟩ := str5.fr D _ hDl hDlab
                  split at hr
                  · rename_i hz
                    refine ⟨accV, d5, by rw [rl.length]; exact hz, ?_⟩
                    have rel6 := rel5.updU (o := .lst (accV ++ [y])) l5 (gD str5)
                    obtain ⟨S7, rel7, st7, hg7, ha7, hl7⟩ := rel6.wipe ws
                    rw [hw] at rel7
                    have rl7 : RpL K S7.G S7.α (wipeS ws s5).M.length (accV ++ [y]) (acc ++ [d']) := by
                      rw [hg7, ha7]
                      exact (rl.step str5).append (.cons rp5 .nil)
                    exact ⟨S7, wipeS ws s5, acc ++ [d'], accV ++ [y], (((stt.trans st4).trans st5).updNew hD).trans st7, rel7, upd_same, hl7 _ l5, by rw [hg7]; exact gD str5, rl7, hr⟩
                  · cases hr
      · have ex : im.xs.drop i = [] := List.drop_eq_nil_of_le (by omega)
        rw [ex] at hr
        unfold lcN at hr
        have hck : chk im.ck s' := Classical.byContradiction fun z => by rw [if_neg z] at hr; cases hr
        rw [if_pos hck] at hr
        cases hr
        have ei : i = im.xs.length := by omega
        refine .inl ⟨by rw [ei]; exact (wk S' _ _ H' st' rel' hck).2, ?_⟩
        exact p1 S' _ H' st' (rel1.rest st' rel') ⟨D, rfl, hD, hDlab, hDg, rfl, accV, hDl, rl⟩)
theorem ei_lc {js ws : List Nat} {wi : TI} {g : TG} {tt : TT} {te : TE} {mi : Mo Im} {f : Tg} {c : Mo Bool} {e : Mo AI} (hi : Jw K ct H0 W wi mi) (hg : Sg K ct H0 js g f) (hjs : ∀ j ∈ js, j ∈ ws) (hc : Et K ct H0 W0 tt c) (he : Ei K ct H0 W0 te e) :
    Ei K ct H0 W (tLc wi g tt te ws) (mLc ws mi f c e) := fun S s σ H Q rel p => ei_lcAt (fun R q => hi S s σ H R rel q) hg hjs hc he p
/-! ## defs -/
def FPst (K : PySem.W.Frag) (ct : Ct) (S : Sh) (M : List Cn) (H : Hp) (Q : VK) (E : XK) : Fr → Prop
  | .ok a M' => ∀ S' v H', Stp S M.length H S' M'.length H' → Rel K ct H S' ⟨[], M'⟩ [] H' → ItOk K ct H S' ⟨[], M'⟩ [] H' v a → Q v H'
  | .er x M' => ∀ S' H' dd, Stp S M.length H S' M'.length H' → Rel K ct H S' ⟨[], M'⟩ [] H' → XOk K S' M'.length H' x dd → E (.ref (ct x.cls)) dd H'
  | .no => False
/-- a def's promise -/
def spM (K : PySem.W.Frag) (ct : Ct) (f : Mf) : Sp := fun vs H Q E => ∃ S M ds, Rel K ct H S ⟨[], M⟩ [] H ∧ RpL K S.G S.α M.length vs ds ∧ FPst K ct S M H Q E (f ds M)
/-- np parameters, n slots -/
def mFn (np n : Nat) (body : Ms) : Mf := fun ds M => if ds.length = np then (match body ⟨ds.map (fun d => some (.fz d)) ++ List.replicate (n - ds.length) none, M⟩ with
  | .nx s => .ok (.val .non) s.M
  | .rt a s => .ok a s.M
  | .er x s => .er x s.M
  | _ => .no) else .no
theorem sp_len {np n : Nat} {body : Ms} {vs : List V} {Q : VK} {E : XK} (h : spM K ct (mFn np n body) vs H Q E) : vs.length = np := by
  obtain ⟨S, M, ds, _, r, h⟩ := h
  rw [r.length]
  unfold mFn at h
  split at h
  · assumption
  · exact False.elim h
theorem Rel.enter {vs : List V} {ds : List D} {N : List Str} {M : List Cn} (r : Rel K ct H S ⟨[], M⟩ [] H) (h : RpL K S.G S.α M.length vs ds) : Rel K ct H S ⟨ds.map (fun d => some (.fz d)) ++ List.replicate (N.length - ds.length) none, M⟩ (start N vs) H := by
  refine ⟨r.sub, r.lg, r.dom, ?_, fun i e q => ?_, r.ids⟩
  · show (vs.map some ++ List.replicate (N.length - vs.length) none).length = (ds.map _ ++ List.replicate _ none).length
    simp only [List.length_append, List.length_map, List.length_replicate, h.length]
  · have q1 : (ds.map (fun d => some (Ent.fz d)) ++ List.replicate (N.length - ds.length) none)[i]? = some (some e) := q
    by_cases hl : i < ds.length
    · rw [List.getElem?_append_left (by rw [List.length_map]; exact hl), List.getElem?_map] at q1
      obtain ⟨d, e1, e2⟩ := Option.map_eq_some_iff.mp q1
      cases e2
      obtain ⟨v, h1, h2⟩ := h.get e1
      refine ⟨v, ?_, h2⟩
      show (vs.map some ++ List.replicate (N.length - vs.length) none)[i]? = _
      rw [List.getElem?_append_left (by rw [List.length_map, h.length]; exact hl), List.getElem?_map, h1]; rfl
    · rw [List.getElem?_append_right (by rw [List.length_map]; omega), List.getElem?_replicate] at q1
      split at q1
      · cases q1
      · cases q1
theorem Rel.leave (r : Rel K ct H0 S s σ H) : Rel K ct H0 S ⟨[], s.M⟩ [] H := ⟨r.sub, r.lg, r.dom, rfl, fun i e q => by simp at q, r.ids⟩
/-- the body keeps the promise -/
theorem fn_run {N : List Str} {np : Nat} {t : TS} {body : Ms} {vs : List V} {Q : VK} {E : XK} (hb : Sv K ct H (fun cls dd _ H' => E cls dd H') t body) (h : spM K ct (mFn np N.length body) vs H Q E) : t { nx := fun _ H' => Q .non H', rt := Q } (start N vs) H := by
  obtain ⟨S, M, ds, r, rp, h⟩ := h
  refine hb S _ _ H _ (r.enter rp) ?_
  unfold mFn at h
  split at h
  rotate_left
  · exact False.elim h
  generalize hR : body ⟨ds.map (fun d => some (.fz d)) ++ List.replicate (N.length - ds.length) none, M⟩ = R at h
  cases R with
  | nx s => exact fun S' σ' H' st rel => h S' .non H' st rel.leave .non
  | rt a s => exact fun S' σ' v H' st rel i => h S' v H' st rel.leave (by
      cases a with
      | val d => exact i
      | new c => exact i
      | slot j => simp [ItOk] at i)
  | er x s => exact fun S' σ' H' dd st rel q => h S' H' dd st rel.leave q
  | bk s => exact False.elim h
  | ct s => exact False.elim h
  | no => exact False.elim h
/-! ### calls -/
def Sh.hide (S : Sh) : Sh := ⟨S.G, S.α, fun a => match S.lab a with
  | some (.slot _) => none
  | l => l⟩
def Sh.back (S S' : Sh) : Sh := ⟨S'.G, S'.α, fun a => match S.lab a with
  | some (.slot i) => some (.slot i)
  | _ => match S'.lab a with
    | some (.slot _) => none
    | l => l⟩
theorem hide_of {a : Addr} {l : Lab} (h : S.hide.lab a = some l) : S.lab a = some l ∧ ∀ i, l ≠ .slot i := by
  have h1 : (match S.lab a with | some (.slot _) => none | l => l) = some l := h
  split at h1
  · cases h1
  · rename_i hn; exact ⟨h1, fun i z => by subst z; exact hn i h1⟩
theorem hide_id {a : Addr} {k : Nat} (h : S.lab a = some (.id k)) : S.hide.lab a = some (.id k) := by
  show (match S.lab a with | some (.slot _) => none | l => l) = _
  rw [h]
theorem hide_none {a : Addr} (h : S.lab a = none) : S.hide.lab a = none := by
  show (match S.lab a with | some (.slot _) => none | l => l) = _
  rw [h]
theorem hide_slot {a : Addr} {i : Nat} (h : S.lab a = some (.slot i)) : S.hide.lab a = none := by
  show (match S.lab a with | some (.slot _) => none | l => l) = _
  rw [h]
theorem back_slot {S' : Sh} {a : Addr} {i : Nat} (h : S.lab a = some (.slot i)) : (S.back S').lab a = some (.slot i) := by
  show (match S.lab a with | some (.slot i) => some (Lab.slot i) | _ => (match S'.lab a with | some (.slot _) => none | l => l)) = _
  rw [h]
theorem back_else {S' : Sh} {a : Addr} (h : ∀ i, S.lab a ≠ some (.slot i)) : (S.back S').lab a = (match S'.lab a with | some (.slot _) => none | l => l) := by
  show (match S.lab a with | some (.slot i) => some (Lab.slot i) | _ => (match S'.lab a with | some (.slot _) => none | l => l)) = _
  split
  · rename_i i e; exact absurd e (h i)
  · rfl
theorem Rel.hide (r : Rel K ct H0 S s σ H) : Rel K ct H S.hide ⟨[], s.M⟩ [] H := ⟨r.sub, fun a l q => r.lg a l (hide_of q).1, fun _ h => h, rfl, fun i e q => by simp at q, fun k c q => ⟨hide_id (r.ids k c q).1, (r.ids k c q).2.mono (fun _ _ e => e) (fun _ _ => rfl) (Nat.le_refl _) (fun _ e => e)⟩⟩
theorem Rel.back {S' : Sh} {M' : List Cn} {H' : Hp} (r : Rel K ct H0 S s σ H) (st : Stp S.hide s.M.length H S' M'.length H') (r' : Rel K ct H S' ⟨[], M'⟩ [] H') :
    Rel K ct H0 (S.back S') ⟨s.env, M'⟩ σ H' ∧ Stp S s.M.length H (S.back S') M'.length H' := by
  have slot_keep : ∀ {a : Addr} {i : Nat}, S.lab a = some (.slot i) → (∀ o, H a = some o → H' a = some o) ∧ S'.G a = none ∧ S'.lab a = none := fun {a i} h => by
    obtain ⟨hg, o, ho⟩ := r.lg a _ h
    have k := st.fr a o ho (hide_slot h)
    refine ⟨fun u hu => (st.fr a u hu (hide_slot h)).1, ?_, k.2⟩
    cases q : S'.G a with
    | none => rfl
    | some u =>
      rcases st.gn a u q with z | z | ⟨l, z⟩
      · have z : S.G a = some u := z; rw [hg] at z; cases z
      · rw [ho] at z; cases z
      · rw [hide_slot h] at z; cases z
  have cn : ∀ {a : Addr} {c : Cn}, CnOk K ct S' M'.length H' a c → CnOk K ct (S.back S') M'.length H' a c := fun {a c} h => h.mono (fun _ _ e => e) (fun _ _ => rfl) (Nat.le_refl _) (fun _ e => e)
  refine ⟨⟨r'.sub, fun a l q => ?_, fun a h => r.dom a (st.dom a h), r.len, fun i e q => ?_, fun k c q => ?_⟩, ⟨st.g, st.le, st.al, fun a o h l => ?_, fun a o q => ?_, st.dom⟩⟩
  · by_cases hs : ∃ i, S.lab a = some (.slot i)
    · obtain ⟨i, hs⟩ := hs
      obtain ⟨_, o, ho⟩ := r.lg a _ hs
      obtain ⟨k1, k2, k3⟩ := slot_keep hs
      exact ⟨k2, o, k1 o ho⟩
    · rw [back_else (fun i z => hs ⟨i, z⟩)] at q
      split at q
      · cases q
      · exact r'.lg a l q
  · have hh := r.slot i e q
    cases e with
    | fz d => obtain ⟨v, h1, h2⟩ := hh; exact ⟨v, h1, h2.mono st.g st.al st.le⟩
    | xn x => exact xn_mono (S := S) (n := s.M.length) (H := H) st.g st.al st.le rfl hh
    | ow c =>
      obtain ⟨p, h1, h2, h3, h4, h5⟩ := hh
      obtain ⟨k1, k2, k3⟩ := slot_keep h3
      exact ⟨p, h1, h2, back_slot h3, h4, h5.mono st.g st.al st.le k1⟩
  · obtain ⟨k1, k2⟩ := r'.ids k c q
    refine ⟨?_, cn k2⟩
    have hne : ∀ i, S.lab (S'.α k) ≠ some (.slot i) := fun i z => by
      have := (slot_keep z).2.2
      rw [k1] at this; cases this
    show (S.back S').lab (S'.α k) = _
    rw [back_else hne, k1]
  · obtain ⟨h1, h2⟩ := st.fr a o h (hide_none l)
    refine ⟨h1, ?_⟩
    rw [back_else (fun i z => by rw [l] at z; cases z), h2]
  · rcases st.gn a o q with z | z | ⟨l, z⟩
    · exact .inl z
    · exact .inr (.inl z)
    · exact .inr (.inr ⟨l, (hide_of z).1⟩)
def mCall (f : Mf) (m : Mo (List D)) : Mo AI := fun s => (m s).bind fun ds s1 => match f ds s1.M with
  | .ok a M' => .ok a ⟨s1.env, M'⟩
  | .er x M' => .er x ⟨s1.env, M'⟩
  | .no => .no
/-- .. where it doesn't raise -/
def mCallN (f : Mf) (m : Mo (List D)) : Mo AI := fun s => (m s).bind fun ds s1 => match f ds s1.M with
  | .ok a M' => .ok a ⟨s1.env, M'⟩
  | _ => .no
theorem fpst_of {f : Fr} {E : XK} {Q : VK} (rel : Rel K ct H0 S s σ H) (hE : ∀ x M', f = .er x M' → ∀ S' H' dd, Stp S s.M.length H S' M'.length H' → Rel K ct H0 S' ⟨s.env, M'⟩ σ H' → XOk K S' M'.length H' x dd → E (.ref (ct x.cls)) dd H')
    (hQ : ∀ a M', f = .ok a M' → ∀ S' v H', Stp S s.M.length H S' M'.length H' → Rel K ct H0 S' ⟨s.env, M'⟩ σ H' → ItOk K ct H S' ⟨s.env, M'⟩ σ H' v a → Q v H') (hn : f ≠ .no) : FPst K ct S.hide s.M H Q E f := by
  cases f with
  | no => exact absurd rfl hn
  | er x M' =>
      intro S' H' dd st r' xo
      obtain ⟨k1, k2⟩ := rel.back st r'
      exact hE x M' rfl (S.back S') H' dd k2 k1 xo
  | ok a M' =>
      intro S' v H' st r' it
      obtain ⟨k1, k2⟩ := rel.back st r'
      refine hQ a M' rfl (S.back S') v H' k2 k1 ?_
      cases a with
      | val d => exact it
      | slot j => simp [ItOk] at it
      | new c =>
        obtain ⟨p, rfl, h1, h2, h3, h4, h5⟩ := it
        refine ⟨p, rfl, h1, ?_, h3, h4, h5.mono (fun _ _ e => e) (fun _ _ => rfl) (Nat.le_refl _) (fun _ e => e)⟩
        rw [back_else (fun i z => by have := rel.labN h1; rw [z] at this; cases this), h2]
theorem ei_callN {f : Mf} {E : XK} {t : TA} {m : Mo (List D)} (h : EvL K ct H0 W t m) : Ei K ct H0 W (tCallZ (spM K ct f) E t) (mCallN f m) := fun S s σ H Q rel p =>
  h S s σ H _ rel (Pst.bind bI p fun S1 s1 H1 vs ds st1 rel1 i1 p1 => ⟨S1.hide, s1.M, ds, rel1.hide, i1, by
    generalize hf : f ds s1.M = r at p1
    cases r with
    | no => exact False.elim p1
    | er x M' => exact False.elim p1
    | ok a M' => exact fpst_of rel1 (fun x M' e => by cases e) (fun a' M'' e S' v H' st rl it => by cases e; exact p1 S' v H' st rl it) (fun e => by cases e)⟩)
theorem ei_callN0 {f : Mf} {E : XK} : Ei K ct H0 W (tCallZ (spM K ct f) E tNil) (mCallN f vNil) := ei_callN ev_nil
theorem ei_callS {f : Mf} {t : TA} {m : Mo (List D)} (h : EvL K ct H0 W t m) : Ei K ct H0 W (tCallS (spM K ct f) (WE W) t) (mCall f m) := fun S s σ H Q rel p =>
  h S s σ H _ rel (Pst.bind bI p fun S1 s1 H1 vs ds st1 rel1 i1 p1 => ⟨S1.hide, s1.M, ds, rel1.hide, i1, by
    generalize hf : f ds s1.M = r at p1
    cases r with
    | no => exact False.elim p1
    | er x M' => exact fpst_of rel1 (fun x' M'' e S' H' dd st rl xo => by cases e; exact p1 S' H' dd st rl xo) (fun a' M'' e => by cases e) (fun e => by cases e)
    | ok a M' => exact fpst_of rel1 (fun x M' e => by cases e) (fun a' M'' e S' v H' st rl it => by cases e; exact p1 S' v H' st rl it) (fun e => by cases e)⟩)
end
end Y

namespace Y
open PySem L2 Z
section
variable {X : Cx}
def rIntY : List V → Hp → VK → Prop := fun xs H Q => ((∃ i, xs = [.int i] ∧ Q (.int i) H) ∨ ∃ k, xs = [.bl k] ∧ Q (.int (if k then 1 else 0)) H) ∨ ∃ a n, xs = [.str a] ∧ PySem.intText? a = some n ∧ a.length ≤ 640 ∧ Q (.int n) H
theorem call_intY : CallR X (.type "int") rIntY := L2.CallR.or call_int1 call_int_str
def rStrY : List V → Hp → VK → Prop := fun xs H Q => ∃ i, xs = [.int i] ∧ i.natAbs.log2 < 1920 ∧ Q (.str (toString i)) H
theorem call_strY : CallR X (.type "str") rStrY := call_str_int
def rTupY (K : PySem.W.Frag) : List V → Hp → VK → Prop := fun xs H Q => ∃ p ys, xs = [.ref p] ∧ ((SqL K H p ys ∧ ∀ l, H l = none → Q (.ref l) (upd H l (.tup ys))) ∨ (SqT K H p ys ∧ Q (.ref p) H))
theorem call_tupY {K : PySem.W.Frag} (hK : X.K = K) : CallR X (.type "tuple") (rTupY K) := by subst hK; exact call_tuple_of
theorem PSet.or {t t' : TSet} (h : PSet X t) (h' : PSet X t') : PSet X (fun o i v H Q => t o i v H Q ∨ t' o i v H Q) := by
  intro pins s σ H o i v ov iv u Q I ro ri rv q
  rcases q with q | q
  · exact h pins s σ H o i v ov iv u Q I ro ri rv q
  · exact h' pins s σ H o i v ov iv u Q I ro ri rv q
def rSetY : TSet := fun o i v H Q => rSetL o i v H Q ∨ rSetD o i v H Q
theorem set_Y (hu : X.A.units + 1 < cLine) : PSet X rSetY := PSet.or set_list (set_dict hu)
end
section
variable {K : PySem.W.Frag} {ct : Ct} {H0 : Hp} {W : WX} {S : Sh} {s : Stt} {σ : St} {H : Hp}
theorem cr_ty {n : String} : CR K (.ty n) (.ty n) := fun _ _ _ => .ty n
def fNeg : Stt → AI → Ro AI := fun s a => match a with
  | .val (.int i) => .ok (.val (.int (-i))) s
  | _ => .no
theorem j_neg : J1 K ct H0 (rU fun i => .int (-i)) fNeg := fun W S s σ H Hs x a Q rel ia p => by
  unfold fNeg at p
  split at p
  · rename_i i
    cases rp_int ia
    exact ⟨i, rfl, p.val rel (.int _)⟩
  · exact False.elim p
def fInt (s : Stt) (as : List AI) : Ro AI := match as with
  | [.val (.int i)] => .ok (.val (.int i)) s
  | [.val (.bl k)] => .ok (.val (.int (if k then 1 else 0))) s
  | [.val (.str x)] => match PySem.intText? x with
    | some n => if x.length ≤ 640 then .ok (.val (.int n)) s else .no
    | none => .no
  | _ => .no
theorem jb_int : JB K ct H0 rIntY fInt := fun W S s σ H Hs vs as Q rel ia p => by
  unfold fInt at p
  split at p
  · rename_i i
    obtain ⟨v, rfl, h⟩ := as1 ia
    cases rp_int h
    exact .inl (.inl ⟨i, rfl, p.val rel (.int _)⟩)
  · rename_i k
    obtain ⟨v, rfl, h⟩ := as1 ia
    cases rp_bl h
    exact .inl (.inr ⟨k, rfl, p.val rel (.int _)⟩)
  · rename_i x
    obtain ⟨v, rfl, h⟩ := as1 ia
    cases rp_str h
    split at p
    · rename_i n e
      split at p
      · rename_i hz
        exact .inr ⟨x, n, rfl, e, hz, p.val rel (.int _)⟩
      · exact False.elim p
    · exact False.elim p
  · exact False.elim p
def fStr (s : Stt) (as : List AI) : Ro AI := match as with
  | [.val (.int i)] => if i.natAbs.log2 < 1920 then .ok (.val (.str (toString i))) s else .no
  | _ => .no
theorem jb_str : JB K ct H0 rStrY fStr := fun W S s σ H Hs vs as Q rel ia p => by
  unfold fStr at p
  split at p
  · rename_i i
    obtain ⟨v, rfl, h⟩ := as1 ia
    cases rp_int h
    split at p
    · rename_i hz
      exact ⟨i, rfl, hz, p.val rel (.str _)⟩
    · exact False.elim p
  · exact False.elim p
def fTup (s : Stt) (as : List AI) : Ro AI := match as with
  | [a] => match viewL s a with
    | some l => .ok (.val (.tup l)) s
    | none => match a with
      | .val (.tup l) => .ok (.val (.tup l)) s
      | _ => .no
  | _ => .no
theorem jb_tup : JB K ct H0 (rTupY K) fTup := fun W S s σ H Hs vs as Q rel ia p => by
  unfold fTup at p
  split at p
  · rename_i a
    obtain ⟨v, rfl, h⟩ := as1 ia
    split at p
    · rename_i l e
      obtain ⟨q, us, rfl, k1, k2⟩ := viewL_ok rel h e
      exact ⟨q, us, rfl, .inl ⟨k1, fun r hr => p.newT rel hr k2⟩⟩
    · split at p
      · rename_i l _
        have h' : Rp K S.G S.α s.M.length v (.tup l) := h
        cases h' with
        | tup h1 h2 => exact ⟨_, _, rfl, .inr ⟨.of (uP' (rel.sub _ _ h1)), p.val rel (.tup h1 h2)⟩⟩
      · exact False.elim p
  · exact False.elim p
/-! ## stores -/
def mAug (i : Nat) (f : Int → Int → Int) (m : Mo AI) : Ms := fun s => match entAt s i with
  | some (.fz (.int x)) => (m s).toS fun a s1 => match a with
    | .val (.int y) => .nx ⟨s1.env.set i (some (.fz (.int (f x y)))), s1.M⟩
    | _ => .no
  | _ => .no
theorem sv_aug {i : Nat} {f : Int → Int → Int} {te : TE} {m : Mo AI} (h : Ei K ct H0 W te m) : Sv K ct H0 W (tAug i te (ipI f)) (mAug i f m) := fun S s σ H Dn rel p => by
  unfold mAug at p
  split at p
  · rename_i x e
    obtain ⟨v, h1, h2⟩ := rel.slot i _ (entAt_eq e)
    cases rp_int h2
    refine ⟨.int x, h1, h S s σ H _ rel (PstS.bind p fun S1 s1 H1 y a st1 rel1 i1 p1 => ?_)⟩
    split at p1
    · rename_i j
      cases rp_int i1
      exact ⟨x, j, rfl, rfl, p1 (S1.un i) _ H1 (st1.trans .un) (rel1.setFz (.int _))⟩
    · exact False.elim p1
  · exact False.elim p
def keyOf : D → Option Key
  | .int i => some (.inl i)
  | .str x => some (.inr x)
  | _ => none
theorem keyOf_rp {G : Hp} {α : Nat → Addr} {n : Nat} {v : V} {d : D} {k : Key} (h : Rp K G α n v d) (e : keyOf d = some k) : v = kV k := by
  cases h <;> first | (cases e; rfl) | cases e
/-- o[i] = d -/
def setIt (a : AI) (i d : D) (s : Stt) : Option Stt := match getC s a with
  | some (.lst l) => match i with
    | .int k => (ixN l.length k).map fun j => setC s a (.lst (l.set j d))
    | _ => none
  | some (.dK l) => (keyOf i).bind fun k => if l.length < sizeLine then some (setC s a (.dK (pu l k d))) else none
  | _ => none
theorem setIt_ok {Hs : Hp} {x y v : V} {a : AI} {i d : D} {s' : Stt} {Q : Hp → Prop} (rel : Rel K ct H0 S s σ H) (ia : ItOk K ct Hs S s σ H x a) (ii : Rp K S.G S.α s.M.length y i) (id : Rp K S.G S.α s.M.length v d) (e : setIt a i d s = some s')
    (q : ∀ H', Stp S s.M.length H S s'.M.length H' → Rel K ct H0 S s' σ H' → Q H') : rSetY x y v H Q := by
  unfold setIt at e
  split at e
  · rename_i l eg
    split at e
    · rename_i k
      cases rp_int ii
      obtain ⟨j, e1, rfl⟩ := Option.map_eq_some_iff.mp e
      obtain ⟨p, rfl, ⟨us, h1, h2⟩, h3⟩ := mut_ok rel ia eg
      obtain ⟨r1, r2⟩ := h3 (.lst (us.set j v)) (.lst (l.set j d)) (fun _ => rfl) ⟨_, upd_same, h2.set id j⟩
      exact .inl ⟨p, us, k, j, rfl, rfl, h1, by rw [h2.length]; exact e1, q _ r2 r1⟩
    · cases e
  · rename_i l eg
    obtain ⟨k, e1, e2⟩ := Option.bind_eq_some_iff.mp e
    split at e2
    · rename_i hz
      cases e2
      obtain ⟨p, rfl, ⟨us, h1, h3, h2⟩, h4⟩ := mut_ok rel ia eg
      have rk := RpK.of h3 h2
      have rk' := rk.put (k := k) id
      obtain ⟨r1, r2⟩ := h4 (.dK (putK us k v)) (.dK (pu l k d)) (fun _ => rfl) ⟨_, upd_same, rk'.keys, rk'.vals⟩
      rw [keyOf_rp ii e1]
      exact .inr ⟨p, _, rfl, DPut.k h1 (by rw [rk.len]; exact hz), q _ r2 r1⟩
    · cases e2
  · cases e
def mAsgS (mo mi : Mo AI) (mv : Mo AI) : Ms := fun s => (mV mv s).toS fun d s1 => (mo s1).toS fun a s2 => (mV mi s2).toS fun i s3 => match setIt a i d s3 with
  | some s4 => .nx s4
  | none => .no
theorem sv_asgS {te to ti : TE} {mo mi mv : Mo AI} (hv : Ei K ct H0 W te mv) (ho : Ei K ct H0 W to mo) (hi : Ei K ct H0 W ti mi) : Sv K ct H0 W (tAsg te (gSub to ti rSetY)) (mAsgS mo mi mv) := fun S s σ H Dn rel p =>
  ev_of hv S s σ H _ rel (PstS.bind p fun S1 s1 H1 v d st1 rel1 i1 p1 => ho S1 s1 σ H1 _ rel1 (PstS.bind (PstS.from p1 st1) fun S2 s2 H2 x a st2 rel2 i2 p2 => ev_of hi S2 s2 σ H2 _ rel2 (PstS.bind (PstS.from p2 st2) fun S3 s3 H3 y i st3 rel3 i3 p3 => by
    have p3 := PstS.from p3 st3
    split at p3
    · rename_i s4 e
      exact setIt_ok rel3 (i2.step st3) i3 (Rp.step (st2.trans st3) i1) e fun H' st rl => p3 S3 σ H' st rl
    · exact False.elim p3)))
/-! ## dicts -/
def mDNew : Mo AI := fun s => .ok (.new (.dK [])) s
theorem ei_dnew : Ei K ct H0 W tDNewK mDNew := fun S s σ H Q rel p q hq => p.newC rel hq rfl ⟨[], upd_same, rfl, .nil⟩
/-- d.pop(k), k is there -/
def fPop (s : Stt) (a : AI) (i : D) : Ro AI := match getC s a with
  | some (.dK l) => match (keyOf i).bind fun k => (vl l k).map fun d => (k, d) with
    | some (k, d) => .ok (.val d) (setC s a (.dK (dr l k)))
    | none => .no
  | _ => .no
def mPop (mo mi : Mo AI) : Mo AI := fun s => (mo s).bind fun a s1 => match viewD s1 a with
  | some _ => (mV mi s1).bind fun i s2 => fPop s2 a i
  | none => .no
theorem ei_pop {td ty : TE} {mo mi : Mo AI} (ho : Ei K ct H0 W td mo) (hi : Ei K ct H0 W ty mi) : Ei K ct H0 W (tDPop1 td ty) (mPop mo mi) := fun S s σ H Q rel p =>
  ho S s σ H _ rel (Pst.bind bI p fun S1 s1 H1 x a st1 rel1 i1 p1 => by
    split at p1
    · rename_i l e
      obtain ⟨q, kvs, rfl, h1, h2⟩ := viewD_ok rel1 i1 e
      refine ⟨q, rfl, .inl ⟨kvs, h1⟩, ev_of hi S1 s1 σ H1 _ rel1 (Pst.bind bI p1 fun S2 s2 H2 y i st2 rel2 i2 p2 => ?_)⟩
      unfold fPop at p2
      split at p2
      · rename_i l' eg
        split at p2
        · rename_i k d ek
          obtain ⟨k', e1, e2⟩ := Option.bind_eq_some_iff.mp ek
          obtain ⟨d', e3, e4⟩ := Option.map_eq_some_iff.mp e2
          obtain ⟨rfl, rfl⟩ : k' = k ∧ d' = d := by injection e4 with a b; exact ⟨a, b⟩
          obtain ⟨p, ep, ⟨us, g1, g3, g2⟩, g4⟩ := mut_ok rel2 (i1.step st2) eg
          cases ep
          have rk := RpK.of g3 g2
          have rk' := rk.drop (k := k')
          obtain ⟨r1, r2⟩ := g4 (.dK (dropK us k')) (.dK (dr l' k')) (fun _ => rfl) ⟨_, upd_same, rk'.keys, rk'.vals⟩
          rcases rk.get (k := k') with ⟨z1, z2⟩ | ⟨v, d0, z1, z2, z3⟩
          · rw [z1] at e3; cases e3
          · rw [z1] at e3; cases e3
            refine ⟨us, k', v, g1, keyOf_rp i2 e1, z2, p2 S2 v _ r2 r1 ?_⟩
            show Rp K S2.G S2.α (setC s2 a (.dK (dr l' k'))).M.length v _
            rw [setC_len]; exact z3
        · exact False.elim p2
      · exact False.elim p2
    · exact False.elim p1)
/-- d.get(k), d.get(k, x) -/
def fGet (s : Stt) (a : AI) (i x : D) : Ro AI := match viewD s a with
  | some l => match keyOf i with
    | some k => .ok (.val ((vl l k).getD x)) s
    | none => .no
  | none => .no
def mGet2 (mo mi mx : Mo AI) : Mo AI := fun s => (mo s).bind fun a s1 => match viewD s1 a with
  | some _ => (mV mi s1).bind fun i s2 => (mV mx s2).bind fun x s3 => fGet s3 a i x
  | none => .no
theorem ei_get2 {td ty tx : TE} {mo mi mx : Mo AI} (ho : Ei K ct H0 W td mo) (hi : Ei K ct H0 W ty mi) (hx : Ei K ct H0 W tx mx) : Ei K ct H0 W (tDGet2 td ty tx) (mGet2 mo mi mx) := fun S s σ H Q rel p =>
  ho S s σ H _ rel (Pst.bind bI p fun S1 s1 H1 x a st1 rel1 i1 p1 => by
    split at p1
    · rename_i l e
      obtain ⟨q, kvs, rfl, h1, h2⟩ := viewD_ok rel1 i1 e
      refine ⟨q, rfl, .inl ⟨kvs, h1⟩, ev_of hi S1 s1 σ H1 _ rel1 (Pst.bind bI p1 fun S2 s2 H2 y i st2 rel2 i2 p2 => ev_of hx S2 s2 σ H2 _ rel2 (Pst.bind bI p2 fun S3 s3 H3 z xd st3 rel3 i3 p3 => ?_))⟩
      unfold fGet at p3
      split at p3
      · rename_i l' e'
        split at p3
        · rename_i k ek
          obtain ⟨q', kvs', eq', g1, g2⟩ := viewD_ok rel3 ((i1.step st2).step st3) e'
          cases eq'
          rw [keyOf_rp i2 ek]
          rcases dget_ok (k := k) g1 g2 with ⟨z1, z2⟩ | ⟨v, d0, z1, z2, z3⟩
          · rw [z1] at p3; exact ⟨none, z2, p3.val rel3 i3⟩
          · rw [z1] at p3; exact ⟨some v, z2, p3.val rel3 z3⟩
        · exact False.elim p3
      · exact False.elim p3
    · exact False.elim p1)
end
end Y
namespace Y
open PySem L2 Z
theorem u65 {A : Around} {k : Nat} (hr : Room k A) : A.units + 65 < cLine := by have := hr.un; omega
theorem u66 {A : Around} {k : Nat} (hr : Room k A) : A.units + 70 < cLine := by have := hr.un; omega
theorem rpl_ints {K : PySem.W.Frag} {G : Hp} {α : Nat → Addr} {n : Nat} : ∀ ns : List Int, RpL K G α n (ns.map V.int) (ns.map D.int)
  | [] => .nil
  | i :: ns => .cons (.int i) (rpl_ints ns)
end Y

namespace Y
open PySem L2 Z
/-! ## proofs about mirrors -/
/-- the next turn is reached -/
def Nx (P : Stt → Prop) : Rs → Prop
  | .nx s => P s
  | .ct s => P s
  | _ => False
/-- the next turn is reached, or it is handed back -/
def Nr (P : Stt → Prop) (R : AI → Stt → Prop) : Rs → Prop
  | .nx s => P s
  | .ct s => P s
  | .rt a s => R a s
  | _ => False
def So {α : Type} (P : α → Prop) : Option α → Prop
  | some s => P s
  | none => False
def Ok {α : Type} (P : α → Stt → Prop) : Ro α → Prop
  | .ok a s => P a s
  | _ => False
def Fo (P : AI → List Cn → Prop) : Fr → Prop
  | .ok a M => P a M
  | _ => False
theorem chk_none {s : Stt} : chk none s := trivial
theorem forN_nil {g : Tg} {b : Ms} {s : Stt} : forN g b none [] s = .nx s := by unfold forN; rw [if_pos chk_none]
theorem forN_cons {g : Tg} {b : Ms} {s s1 : Stt} {x : D} {xs : List D} (h : g x s = some s1) : forN g b none (x :: xs) s = (match b s1 with
      | .nx s2 => forN g b none xs s2
      | .ct s2 => forN g b none xs s2
      | .bk s2 => .nx s2
      | .rt a s2 => .rt a s2
      | .er x s2 => .er x s2
      | .no => .no) := by
  conv => lhs; unfold forN
  rw [if_pos chk_none, h] <;> rfl
theorem for_inv {g : Tg} {b : Ms} {xs : List D} {s : Stt} (P : Nat → Stt → Prop) (h0 : P 0 s) (hs : ∀ i x s, xs[i]? = some x → P i s → So (fun s1 => Nx (P (i + 1)) (b s1)) (g x s)) : ∃ s', forN g b none xs s = .nx s' ∧ P xs.length s' := by
  induction xs generalizing P s with
  | nil => exact ⟨s, forN_nil, h0⟩
  | cons x xs ih =>
    have h1 := hs 0 x s rfl h0
    cases hg : g x s with
    | none => rw [hg] at h1; exact False.elim h1
    | some s1 =>
      rw [hg] at h1
      have h1 : Nx (P 1) (b s1) := h1
      rw [forN_cons hg]
      cases hb : b s1 with
      | nx s2 => rw [hb] at h1; exact ih (fun i => P (i + 1)) h1 fun i y s e => hs (i + 1) y s e
      | ct s2 => rw [hb] at h1; exact ih (fun i => P (i + 1)) h1 fun i y s e => hs (i + 1) y s e
      | bk s2 => rw [hb] at h1; exact False.elim h1
      | rt a s2 => rw [hb] at h1; exact False.elim h1
      | er x s2 => rw [hb] at h1; exact False.elim h1
      | no => rw [hb] at h1; exact False.elim h1
theorem for_ret {g : Tg} {b : Ms} {xs : List D} {s : Stt} (P : Nat → Stt → Prop) (R : AI → Stt → Prop) (h0 : P 0 s) (hs : ∀ i x s, xs[i]? = some x → P i s → So (fun s1 => Nr (P (i + 1)) R (b s1)) (g x s)) : (∃ s', forN g b none xs s = .nx s' ∧ P xs.length s') ∨ ∃ a s', forN g b none xs s = .rt a s' ∧ R a s' := by
  induction xs generalizing P s with
  | nil => exact .inl ⟨s, forN_nil, h0⟩
  | cons x xs ih =>
    have h1 := hs 0 x s rfl h0
    cases hg : g x s with
    | none => rw [hg] at h1; exact False.elim h1
    | some s1 =>
      rw [hg] at h1
      have h1 : Nr (P 1) R (b s1) := h1
      rw [forN_cons hg]
      cases hb : b s1 with
      | nx s2 => rw [hb] at h1; exact ih (fun i => P (i + 1)) h1 fun i y s e => hs (i + 1) y s e
      | ct s2 => rw [hb] at h1; exact ih (fun i => P (i + 1)) h1 fun i y s e => hs (i + 1) y s e
      | rt a s2 => rw [hb] at h1; exact .inr ⟨a, s2, rfl, h1⟩
      | bk s2 => rw [hb] at h1; exact False.elim h1
      | er x s2 => rw [hb] at h1; exact False.elim h1
      | no => rw [hb] at h1; exact False.elim h1
theorem wh_inv {c : Mo Bool} {b : Ms} {s : Stt} (P : Nat → Stt → Prop) (E : Stt → Prop) (n : Nat) (h0 : P n s) (hs : ∀ n s, P n s → Ok (fun k s1 => if k = true then Nx (fun s2 => ∃ m, m < n ∧ P m s2) (b s1) else E s1) (c s)) : ∃ s', mWh c b s = .nx s' ∧ E s' := by
  have key : ∀ n s, P n s → ∃ s' k, whN c b k s = .nx s' ∧ E s' := by
    intro n
    induction n using Nat.strongRecOn with
    | ind n ih =>
      intro s h
      have h1 := hs n s h
      cases hc : c s with
      | no => rw [hc] at h1; exact False.elim h1
      | er x s1 => rw [hc] at h1; exact False.elim h1
      | ok k s1 =>
        rw [hc] at h1
        have h1 : if k = true then Nx (fun s2 => ∃ m, m < n ∧ P m s2) (b s1) else E s1 := h1
        cases k with
        | false =>
          rw [if_neg Bool.false_ne_true] at h1
          exact ⟨s1, 1, by unfold whN; rw [hc]; rfl, h1⟩
        | true =>
          rw [if_pos rfl] at h1
          cases hb : b s1 with
          | nx s2 =>
            rw [hb] at h1
            obtain ⟨m, hm, hp⟩ := h1
            obtain ⟨s', k, e, he⟩ := ih m hm s2 hp
            refine ⟨s', k + 1, ?_, he⟩
            unfold whN; rw [hc]
            show (if true = true then (match b s1 with | .nx s2 => whN c b k s2 | .ct s2 => whN c b k s2 | .bk s2 => .nx s2 | .rt a s2 => .rt a s2 | .er x s2 => .er x s2 | .no => .no) else Rs.nx s1) = _
            rw [if_pos rfl, hb]; exact e
          | ct s2 =>
            rw [hb] at h1
            obtain ⟨m, hm, hp⟩ := h1
            obtain ⟨s', k, e, he⟩ := ih m hm s2 hp
            refine ⟨s', k + 1, ?_, he⟩
            unfold whN; rw [hc]
            show (if true = true then (match b s1 with | .nx s2 => whN c b k s2 | .ct s2 => whN c b k s2 | .bk s2 => .nx s2 | .rt a s2 => .rt a s2 | .er x s2 => .er x s2 | .no => .no) else Rs.nx s1) = _
            rw [if_pos rfl, hb]; exact e
          | bk s2 => rw [hb] at h1; exact False.elim h1
          | rt a s2 => rw [hb] at h1; exact False.elim h1
          | er x s2 => rw [hb] at h1; exact False.elim h1
          | no => rw [hb] at h1; exact False.elim h1
  obtain ⟨s', k, e, he⟩ := key n s h0
  exact ⟨s', mWh_eq e (by intro z; cases z), he⟩
/-- a comprehension, by what holds of each part: the state comes back -/
theorem lc_map {ws : List Nat} {g : Tg} {e : Mo D} {s : Stt} {xs : List D} (f : D → D) (hz : xs.length ≤ sizeLine) (h : ∀ x ∈ xs, So (fun s1 => Ok (fun d s2 => d = f x ∧ wipeS ws s2 = s) (e s1)) (g x s)) : ∀ acc : List D, acc.length + xs.length ≤ sizeLine → lcN ws g mYes e none xs acc s = .ok (acc ++ xs.map f) s := by
  induction xs with
  | nil => intro acc _; unfold lcN; rw [if_pos chk_none, List.map_nil, List.append_nil]
  | cons x xs ih =>
    intro acc ha
    have h1 := h x (by simp)
    unfold lcN
    rw [if_pos chk_none]
    cases hg : g x s with
    | none => rw [hg] at h1; exact False.elim h1
    | some s1 =>
      rw [hg] at h1
      have h1 : Ok (fun d s2 => d = f x ∧ wipeS ws s2 = s) (e s1) := h1
      show (if true = true then (match e s1 with | .ok d s3 => if acc.length < sizeLine then lcN ws g mYes e none xs (acc ++ [d]) (wipeS ws s3) else .no | _ => .no) else _) = _
      rw [if_pos rfl]
      cases he : e s1 with
      | no => rw [he] at h1; exact False.elim h1
      | er x s2 => rw [he] at h1; exact False.elim h1
      | ok d s2 =>
        rw [he] at h1
        obtain ⟨rfl, h3⟩ := h1
        have hl : acc.length < sizeLine := by rw [List.length_cons] at ha; omega
        show (if acc.length < sizeLine then lcN ws g mYes e none xs (acc ++ [f x]) (wipeS ws s2) else .no) = _
        rw [if_pos hl, h3, ih (by rw [List.length_cons] at hz; omega) (fun y hy => h y (by simp [hy])) _ (by rw [List.length_append, List.length_cons, List.length_nil]; rw [List.length_cons] at ha; omega), List.append_assoc]
        rfl
/-- .. with a test -/
theorem lc_filter {ws : List Nat} {g : Tg} {c : Mo Bool} {e : Mo D} {s : Stt} {xs : List D} (p : D → Bool) (f : D → D) (hz : xs.length ≤ sizeLine) (h : ∀ x ∈ xs, So (fun s1 => Ok (fun b s2 => b = p x ∧ if b = true then Ok (fun d s3 => d = f x ∧ wipeS ws s3 = s) (e s2) else wipeS ws s2 = s) (c s1)) (g x s)) : ∀ acc : List D, acc.length + xs.length ≤ sizeLine → lcN ws g c e none xs acc s = .ok (acc ++ (xs.filter p).map f) s := by
  induction xs with
  | nil => intro acc _; unfold lcN; rw [if_pos chk_none, List.filter_nil, List.map_nil, List.append_nil]
  | cons x xs ih =>
    intro acc ha
    have h1 := h x (by simp)
    unfold lcN
    rw [if_pos chk_none]
    have ih' := ih (by rw [List.length_cons] at hz; omega) (fun y hy => h y (by simp [hy]))
    cases hg : g x s with
    | none => rw [hg] at h1; exact False.elim h1
    | some s1 =>
      rw [hg] at h1
      have h1 : Ok (fun b s2 => b = p x ∧ if b = true then Ok (fun d s3 => d = f x ∧ wipeS ws s3 = s) (e s2) else wipeS ws s2 = s) (c s1) := h1
      show (match c s1 with | .ok b s2 => if b = true then (match e s2 with | .ok d s3 => if acc.length < sizeLine then lcN ws g c e none xs (acc ++ [d]) (wipeS ws s3) else .no | _ => .no) else lcN ws g c e none xs acc (wipeS ws s2) | _ => .no) = _
      cases hc : c s1 with
      | no => rw [hc] at h1; exact False.elim h1
      | er x s2 => rw [hc] at h1; exact False.elim h1
      | ok b s2 =>
        rw [hc] at h1
        obtain ⟨hb, h1⟩ := h1
        show (if b = true then (match e s2 with | .ok d s3 => if acc.length < sizeLine then lcN ws g c e none xs (acc ++ [d]) (wipeS ws s3) else .no | _ => .no) else lcN ws g c e none xs acc (wipeS ws s2)) = _
        cases b with
        | false =>
          rw [if_neg Bool.false_ne_true] at h1 ⊢
          rw [h1, ih' acc (by rw [List.length_cons] at ha; omega), List.filter_cons_of_neg (by rw [← hb]; exact Bool.false_ne_true)]
        | true =>
          rw [if_pos rfl] at h1 ⊢
          cases he : e s2 with
          | no => rw [he] at h1; exact False.elim h1
          | er x s2 => rw [he] at h1; exact False.elim h1
          | ok d s3 =>
            rw [he] at h1
            obtain ⟨rfl, h3⟩ := h1
            have hl : acc.length < sizeLine := by rw [List.length_cons] at ha; omega
            show (if acc.length < sizeLine then lcN ws g c e none xs (acc ++ [f x]) (wipeS ws s3) else .no) = _
            rw [if_pos hl, h3, ih' _ (by rw [List.length_append, List.length_cons, List.length_nil]; rw [List.length_cons] at ha; omega), List.filter_cons_of_pos (by rw [← hb]), List.map_cons, List.append_assoc]
            rfl
/-- .. by an invariant (the state may change; what is told of the items) -/
theorem lc_inv {ws : List Nat} {g : Tg} {e : Mo D} {s : Stt} {xs : List D} (P : Nat → List D → Stt → Prop) (acc : List D) (h0 : P 0 acc s) (hz : acc.length + xs.length ≤ sizeLine) (h : ∀ i x acc s, xs[i]? = some x → P i acc s → So (fun s1 => Ok (fun d s2 => P (i + 1) (acc ++ [d]) (wipeS ws s2)) (e s1)) (g x s)) : ∃ l s', lcN ws g mYes e none xs acc s = .ok l s' ∧ P xs.length l s' := by
  induction xs generalizing P acc s with
  | nil => exact ⟨acc, s, by unfold lcN; rw [if_pos chk_none], h0⟩
  | cons x xs ih =>
    have h1 := h 0 x acc s rfl h0
    unfold lcN
    rw [if_pos chk_none]
    cases hg : g x s with
    | none => rw [hg] at h1; exact False.elim h1
    | some s1 =>
      rw [hg] at h1
      have h1 : Ok (fun d s2 => P 1 (acc ++ [d]) (wipeS ws s2)) (e s1) := h1
      show ∃ l s', (if true = true then (match e s1 with | .ok d s3 => if acc.length < sizeLine then lcN ws g mYes e none xs (acc ++ [d]) (wipeS ws s3) else .no | _ => .no) else _) = _ ∧ _
      rw [if_pos rfl]
      cases he : e s1 with
      | no => rw [he] at h1; exact False.elim h1
      | er x s2 => rw [he] at h1; exact False.elim h1
      | ok d s2 =>
        rw [he] at h1
        have hl : acc.length < sizeLine := by rw [List.length_cons] at hz; omega
        show ∃ l s', (if acc.length < sizeLine then lcN ws g mYes e none xs (acc ++ [d]) (wipeS ws s2) else .no) = _ ∧ _
        rw [if_pos hl]
        exact ih (fun i => P (i + 1)) (acc ++ [d]) h1 (by rw [List.length_append, List.length_cons, List.length_nil]; rw [List.length_cons] at hz; omega) fun i y acc s e => h (i + 1) y acc s e
/-! ### rows of whole numbers -/
theorem intsD_map (ns : List Int) : intsD (ns.map D.int) = some ns := by
  induction ns with
  | nil => rfl
  | cons n ns ih => show (intsD (ns.map D.int)).map (n :: ·) = _; rw [ih]; rfl
theorem blsD_map (ns : List Bool) : blsD (ns.map D.bl) = some ns := by
  induction ns with
  | nil => rfl
  | cons n ns ih => show (blsD (ns.map D.bl)).map (n :: ·) = _; rw [ih]; rfl
theorem pyL_ints (ns : List Int) : D.pyL (ns.map D.int) = some (ns.map PyData.int) := by
  induction ns with
  | nil => rfl
  | cons n ns ih => show (D.py (.int n)).bind (fun x => (D.pyL (ns.map D.int)).map (x :: ·)) = _; rw [ih]; rfl
theorem atI_map {β : Type} (f : β → D) (l : List β) (i : Int) : atI (l.map f) i = (atI l i).map f := by
  unfold atI
  rw [List.length_map]
  cases ixN l.length i with
  | none => rfl
  | some j => show (l.map f)[j]? = (l[j]?).map f; rw [List.getElem?_map]
theorem atI_nn {β : Type} {l : List β} {i : Int} (h : 0 ≤ i) : atI l i = l[i.toNat]? := by
  unfold atI ixN
  rw [if_pos h]
  by_cases q : i < l.length
  · rw [if_pos q]; rfl
  · rw [if_neg q]; show none = _; rw [List.getElem?_eq_none_iff.mpr (by omega)]
theorem atI_int {ns : List Int} {i : Int} (h0 : 0 ≤ i) (h1 : i < ns.length) : atI (ns.map D.int) i = some (.int (ns.getD i.toNat 0)) := by
  rw [atI_nn h0, List.getElem?_map, List.getElem?_eq_getElem (by omega : i.toNat < ns.length)]
  simp [List.getD, (by omega : i.toNat < ns.length)]
theorem cutL_map {β γ : Type} (f : β → γ) (l : List β) (lo hi : Option Int) : cutL (l.map f) lo hi = (cutL l lo hi).map f := by
  unfold cutL; rw [List.length_map, List.map_take, List.map_drop]
theorem cutL_from {β : Type} (xs : List β) {i : Int} (h : 0 ≤ i) : cutL xs (some i) none = xs.drop i.toNat := by
  unfold cutL
  have e1 : HT.sIx xs.length xs.length none = xs.length := rfl
  have e2 : HT.sIx xs.length 0 (some i) = min i.toNat xs.length := if_neg (by omega)
  rw [e1, e2]
  by_cases l : i.toNat ≤ xs.length
  · rw [Nat.min_eq_left l, List.take_of_length_le (by rw [List.length_drop]; exact Nat.le_refl _)]
  · rw [Nat.min_eq_right (by omega), Nat.sub_self, List.take_zero, List.drop_eq_nil_of_le (by omega)]
theorem cutL_to {β : Type} (xs : List β) {i : Int} (h : 0 ≤ i) : cutL xs none (some i) = xs.take i.toNat := by
  unfold cutL
  have e1 : HT.sIx xs.length 0 none = 0 := rfl
  have e2 : HT.sIx xs.length xs.length (some i) = min i.toNat xs.length := if_neg (by omega)
  rw [e1, e2, List.drop_zero, Nat.sub_zero]
  by_cases l : i.toNat ≤ xs.length
  · rw [Nat.min_eq_left l]
  · rw [Nat.min_eq_right (by omega), List.take_of_length_le (Nat.le_refl _), List.take_of_length_le (by omega)]
theorem cutL_part {β : Type} (xs : List β) {i j : Int} (h : 0 ≤ i) (h' : 0 ≤ j) : cutL xs (some i) (some j) = (xs.drop i.toNat).take (j.toNat - i.toNat) := by
  unfold cutL
  have e1 : HT.sIx xs.length xs.length (some j) = min j.toNat xs.length := if_neg (by omega)
  have e2 : HT.sIx xs.length 0 (some i) = min i.toNat xs.length := if_neg (by omega)
  rw [e1, e2]
  by_cases l : i.toNat ≤ xs.length
  · rw [Nat.min_eq_left l]
    by_cases l2 : j.toNat ≤ xs.length
    · rw [Nat.min_eq_left l2]
    · rw [Nat.min_eq_right (by omega), List.take_of_length_le (by rw [List.length_drop]; exact Nat.le_refl _), List.take_of_length_le (by rw [List.length_drop]; omega)]
  · rw [Nat.min_eq_right (a := i.toNat) (by omega), List.drop_eq_nil_of_le (Nat.le_refl _), List.drop_eq_nil_of_le (by omega), List.take_nil, List.take_nil]
theorem rng_get {lo : Int} {n i : Nat} {d : D} (h : (rng lo n)[i]? = some d) : i < n ∧ d = .int (lo + i) := by
  unfold rng at h
  rw [List.getElem?_map] at h
  obtain ⟨j, e1, rfl⟩ := Option.map_eq_some_iff.mp h
  obtain ⟨hlt, ej⟩ := List.getElem?_eq_some_iff.mp e1
  rw [List.getElem_range] at ej
  rw [List.length_range] at hlt
  subst ej
  exact ⟨hlt, rfl⟩
theorem rng_len {lo : Int} {n : Nat} : (rng lo n).length = n := by unfold rng; rw [List.length_map, List.length_range]
theorem map_get {β : Type} {f : β → D} {l : List β} {i : Nat} {d : D} (h : (l.map f)[i]? = some d) : ∃ x, l[i]? = some x ∧ d = f x := by
  rw [List.getElem?_map] at h
  obtain ⟨x, e, rfl⟩ := Option.map_eq_some_iff.mp h
  exact ⟨x, e, rfl⟩
theorem enum_get {l : List D} {i : Nat} {d : D} (h : (enumL l)[i]? = some d) : ∃ x, l[i]? = some x ∧ d = .tup [.int (i : Nat), x] := by
  unfold enumL at h
  rw [List.getElem?_map, List.getElem?_zipIdx] at h
  obtain ⟨pr, e2, rfl⟩ := Option.map_eq_some_iff.mp h
  obtain ⟨y, e3, rfl⟩ := Option.map_eq_some_iff.mp e2
  exact ⟨y, e3, by rw [Nat.zero_add]⟩
theorem enum_len {l : List D} : (enumL l).length = l.length := by unfold enumL; rw [List.length_map, List.length_zipIdx]
theorem shaped_int (i : Int) : SeqAt.shaped (.int i) = true := rfl
theorem shaped_bool (b : Bool) : SeqAt.shaped (.bool b) = true := rfl
theorem shaped_none : SeqAt.shaped .none = true := rfl
theorem eqv_int (i j : Int) : PyData.eqv (.int i) (.int j) = decide (i = j) := by
  show (i == j) = _
  by_cases h : i = j
  · subst h; simp
  · simp [h]
theorem eqv_bool (i j : Bool) : PyData.eqv (.bool i) (.bool j) = (i == j) := rfl
theorem eqv_lints (ns ms : List Int) : PyData.eqv (.list (ns.map PyData.int)) (.list (ms.map PyData.int)) = decide (ns = ms) := Z.eqv_ints ns ms
theorem shaped_lints (ns : List Int) : SeqAt.shaped (.list (ns.map PyData.int)) = true := Z.shaped_ints ns
end Y

namespace Y
open PySem L2 Z
/-! ## mirrors, step by step -/
def Wo {α : Type} (Q : α → Stt → Prop) (X : Exn → Stt → Prop) : Ro α → Prop
  | .ok a s => Q a s
  | .er x s => X x s
  | .no => False
def Ws (N : Stt → Prop) (O : Rs → Prop) : Rs → Prop
  | .nx s => N s
  | .no => False
  | r => O r
abbrev Xf : Exn → Stt → Prop := fun _ _ => False
section
variable {α β : Type} {Q : α → Stt → Prop} {QA : AI → Stt → Prop} {QD : D → Stt → Prop} {QL : List AI → Stt → Prop} {QV : List D → Stt → Prop} {QB : Bool → Stt → Prop} {QO : Option Int → Stt → Prop} {QI : Im → Stt → Prop} {X : Exn → Stt → Prop} {N : Stt → Prop} {O : Rs → Prop} {s : Stt} {i j : Nat} {m m1 m2 m3 : Mo AI} {env : List (Option Ent)} {M : List Cn}
theorem w_bind {r : Ro β} {f : β → Mo α} (h : Wo (fun a s => Wo Q X (f a s)) X r) : Wo Q X (r.bind f) := by cases r <;> exact h
theorem w_toS {r : Ro β} {f : β → Ms} (h : Wo (fun a s => Ws N O (f a s)) (fun x s => O (.er x s)) r) : Ws N O (r.toS f) := by cases r <;> exact h
theorem w_mono {Q' : α → Stt → Prop} {r : Ro α} (h : Wo Q X r) (k : ∀ a s, Q a s → Q' a s) : Wo Q' X r := by
  cases r with
  | ok a s => exact k _ _ h
  | er x s => exact h
  | no => exact h
theorem w_seq {a b : Ms} (h : Ws (fun s1 => Ws N O (b s1)) O (a s)) : Ws N O (mSeq a b s) := by
  unfold mSeq
  cases q : a s <;> rw [q] at h <;> exact h
/-- the ways meet again at R -/
theorem w_join {a b : Ms} (R : Stt → Prop) (h : Ws R O (a s)) (k : ∀ s, R s → Ws N O (b s)) : Ws N O (mSeq a b s) := by
  unfold mSeq
  cases q : a s with
  | nx s1 => rw [q] at h; exact k s1 h
  | _ => rw [q] at h; exact h
theorem w_wk {R : Stt → Prop} {r : Rs} (h : Ws R O r) (k : ∀ s, R s → N s) : Ws N O r := by
  cases r with
  | nx s => exact k s h
  | _ => exact h
theorem w_next (h : N s) : Ws N O (mNext s) := h
theorem w_brk (h : O (.bk s)) : Ws N O (mBrk s) := h
theorem w_cnt (h : O (.ct s)) : Ws N O (mCnt s) := h
theorem w_drop (h : Wo (fun _ s1 => N s1) (fun x s => O (.er x s)) (m s)) : Ws N O (mDrop m s) := w_toS h
theorem w_ifS {c : Mo Bool} {a b : Ms} (h : Wo (fun k s1 => if k = true then Ws N O (a s1) else Ws N O (b s1)) (fun x s => O (.er x s)) (c s)) : Ws N O (mIfS c a b s) := w_toS (w_mono h fun k s h => by cases k <;> exact h)
theorem w_asg (h : Wo (fun a s1 => Ws N O (asg i a s1)) (fun x s => O (.er x s)) (m s)) : Ws N O (mAsg i m s) := w_toS h
theorem w_asgV {d : D} (h : N ⟨s.env.set i (some (.fz d)), s.M⟩) : Ws N O (asg i (.val d) s) := h
theorem w_asgN {c : Cn} (h : N ⟨s.env.set i (some (.ow c)), s.M⟩) : Ws N O (asg i (.new c) s) := h
theorem w_asgI {c : Cn} (e : entAt s j = some (.ow c)) (h : N ⟨(s.env.set j (some (.fz c.toD))).set i (some (.fz c.toD)), s.M⟩) : Ws N O (asg i (.slot j) s) := by
  show Ws N O ((match entAt s j with | some (.ow c) => Ro.ok c.toD ⟨s.env.set j (some (.fz c.toD)), s.M⟩ | some (.fz d) => Ro.ok d s | _ => Ro.no).toS fun d s1 => .nx ⟨s1.env.set i (some (.fz d)), s1.M⟩)
  rw [e]; exact h
theorem w_ret (h : Wo (fun a s1 => Ws N O (Y.ret a s1)) (fun x s => O (.er x s)) (m s)) : Ws N O (mRet m s) := w_toS h
theorem w_retV {d : D} (h : O (.rt (.val d) s)) : Ws N O (Y.ret (.val d) s) := h
theorem w_retN' {c : Cn} (h : O (.rt (.new c) s)) : Ws N O (Y.ret (.new c) s) := h
theorem w_retS {c : Cn} (e : entAt s j = some (.ow c)) (h : O (.rt (.new c) ⟨s.env.set j none, s.M⟩)) : Ws N O (Y.ret (.slot j) s) := by
  show Ws N O (match entAt s j with | some (.ow c) => .rt (.new c) ⟨s.env.set j none, s.M⟩ | some (.fz d) => .rt (.val d) s | _ => .no)
  rw [e]; exact h
theorem w_retN (h : O (.rt (.val .non) s)) : Ws N O (mRetN s) := h
theorem w_nameF {d : D} (e : entAt s i = some (.fz d)) (h : QA (.val d) s) : Wo QA X (mName i s) := by unfold mName; rw [e]; exact h
theorem w_nameO {c : Cn} (e : entAt s i = some (.ow c)) (h : QA (.slot i) s) : Wo QA X (mName i s) := by unfold mName; rw [e]; exact h
theorem w_c {d : D} (h : QA (.val d) s) : Wo QA X (mC d s) := h
theorem w_op {f : Stt → AI → AI → Ro AI} (h : Wo (fun a s1 => Wo (fun b s2 => Wo QA X (f s2 a b)) X (m2 s1)) X (m1 s)) : Wo QA X (mOp f m1 m2 s) := w_bind (w_mono h fun _ _ h => w_bind h)
theorem w_un {f : Stt → AI → Ro AI} (h : Wo (fun a s1 => Wo QA X (f s1 a)) X (m1 s)) : Wo QA X (mUn f m1 s) := w_bind h
theorem w_I0 {g : Int → Int → D} {i j : Int} (h : QA (.val (g i j)) s) : Wo QA X (fI0 g s (.val (.int i)) (.val (.int j))) := h
theorem w_I {C : Int → Int → Prop} {g : Int → Int → D} {i j : Int} (c : C i j) (h : QA (.val (g i j)) s) : Wo QA X (fI C g s (.val (.int i)) (.val (.int j))) := by
  unfold fI; simp only []; rw [if_pos c]; exact h
theorem w_addI {i j : Int} (h : QA (.val (.int (i + j))) s) : Wo QA X (fAdd s (.val (.int i)) (.val (.int j))) := h
theorem w_addS {x y : Str} (c : x.length + y.length ≤ sizeLine) (h : QA (.val (.str (x ++ y))) s) : Wo QA X (fAdd s (.val (.str x)) (.val (.str y))) := by
  unfold fAdd; simp only []; rw [if_pos c]; exact h
def noS : AI → Bool
  | .val (.int _) => false
  | .val (.str _) => false
  | _ => true
theorem w_addL {a b : AI} {l l' : List D} (n : noS a = true) (e1 : viewL s a = some l) (e2 : viewL s b = some l') (c : l.length + l'.length ≤ sizeLine) (h : QA (.new (.lst (l ++ l'))) s) : Wo QA X (fAdd s a b) := by
  unfold fAdd
  split
  · cases n
  · cases n
  · rw [e1, e2]; simp only []; rw [if_pos c]; exact h
theorem w_mulI {i j : Int} (c : CMul i j) (h : QA (.val (.int (i * j))) s) : Wo QA X (fMul s (.val (.int i)) (.val (.int j))) := by
  unfold fMul; simp only []; rw [if_pos c]; exact h
theorem w_mulL {a : AI} {l : List D} {j : Int} (n : noS a = true) (e1 : viewX s a = some l) (c : -(2 ^ 63) ≤ j ∧ j < 2 ^ 63 ∧ l.length * j.toNat ≤ sizeLine) (h : QA (.new (.lst (List.replicate j.toNat l).flatten)) s) : Wo QA X (fMul s a (.val (.int j))) := by
  unfold fMul
  split
  · cases n
  · rename_i heq; cases heq; rw [e1]; simp only []; rw [if_pos c]; exact h
  · rename_i h1 h2; first | exact (h1 _ rfl).elim | exact (h2 _ rfl).elim | exact (h1 _ _ rfl).elim | exact (h2 _ _ rfl).elim
theorem w_eqI {i j : Int} (h : QA (.val (.bl (decide (i = j)))) s) : Wo QA X (fEq s (.val (.int i)) (.val (.int j))) := by
  show Wo QA X (.ok (.val (.bl (PyData.eqv (.int i) (.int j)))) s)
  rw [eqv_int]; exact h
theorem w_neI {i j : Int} (h : QA (.val (.bl (!decide (i = j)))) s) : Wo QA X (fNe s (.val (.int i)) (.val (.int j))) := by
  show Wo QA X (.ok (.val (.bl (!PyData.eqv (.int i) (.int j)))) s)
  rw [eqv_int]; exact h
theorem w_eq {a b : AI} {k : Bool} (e : eqOf s a b = some k) (h : QA (.val (.bl k)) s) : Wo QA X (fEq s a b) := by unfold fEq; rw [e]; exact h
theorem w_ne {a b : AI} {k : Bool} (e : eqOf s a b = some k) (h : QA (.val (.bl (!k))) s) : Wo QA X (fNe s a b) := by unfold fNe; rw [e]; exact h
theorem eqOf_of {a b : AI} {x y : PyData} {k : Bool} (e1 : pyOf s a = some x) (e2 : pyOf s b = some y) (h1 : SeqAt.shaped x = true) (h2 : SeqAt.shaped y = true) (e : x.eqv y = k) : eqOf s a b = some k := by
  unfold eqOf; rw [e1, e2]; show (if SeqAt.shaped x && SeqAt.shaped y then some (x.eqv y) else none) = _
  rw [h1, h2, e]; rfl
theorem py_ints {d : D} {ns : List Int} (h : d = .lst (ns.map D.int) ∨ d = .clst (ns.map D.int)) : d.py = some (.list (ns.map PyData.int)) := by
  rcases h with rfl | rfl
  · show (D.pyL (ns.map D.int)).map PyData.list = _; rw [pyL_ints]; rfl
  · show (D.pyL (ns.map D.int)).map PyData.list = _; rw [pyL_ints]; rfl
theorem eqOf_ints {a b : AI} {d d' : D} {ns ms : List Int} (e1 : (look s a).bind (deref s.M) = some d) (e2 : (look s b).bind (deref s.M) = some d') (h1 : d = .lst (ns.map D.int) ∨ d = .clst (ns.map D.int)) (h2 : d' = .lst (ms.map D.int) ∨ d' = .clst (ms.map D.int)) : eqOf s a b = some (decide (ns = ms)) := by
  refine eqOf_of (x := .list (ns.map PyData.int)) (y := .list (ms.map PyData.int)) ?_ ?_ (shaped_lints ns) (shaped_lints ms) (eqv_lints ns ms)
  · unfold pyOf; rw [e1]; exact py_ints h1
  · unfold pyOf; rw [e2]; exact py_ints h2
theorem w_isB {x y : Bool} (h : QA (.val (.bl (x == y))) s) : Wo QA X (fIs s (.val (.bl x)) (.val (.bl y))) := h
theorem w_isnB {x y : Bool} (h : QA (.val (.bl (!(x == y)))) s) : Wo QA X (fIsn s (.val (.bl x)) (.val (.bl y))) := h
theorem isOf_n {a : AI} {d : D} (e : look s a = some d) : isOf s a (.val .non) = some d.isN := by
  unfold isOf
  split
  · rename_i h; cases h
  · rw [e]; rfl
  · rename_i h1 h2; first | exact (h1 rfl).elim | exact (h2 rfl).elim
theorem w_isN {a : AI} {d : D} (e : look s a = some d) (h : QA (.val (.bl d.isN)) s) : Wo QA X (fIs s a (.val .non)) := by unfold fIs; rw [isOf_n e]; exact h
theorem w_isnN {a : AI} {d : D} (e : look s a = some d) (h : QA (.val (.bl (!d.isN))) s) : Wo QA X (fIsn s a (.val .non)) := by unfold fIsn; rw [isOf_n e]; exact h
theorem w_ixL {a : AI} {l : List D} {i : Int} {d : D} (n : noS a = true) (e0 : viewD s a = none) (e1 : viewL s a = some l) (e2 : atI l i = some d) (h : QA (.val d) s) : Wo QA X (fIxY s a (.val (.int i))) := by
  unfold fIxY; rw [e0]; simp only []
  unfold fIx; simp only []
  split
  · cases n
  · rw [e1]; simp only []; rw [e2]; exact h
theorem w_ixT {a : AI} {l : List D} {i : Int} {d : D} (n : noS a = true) (e0 : viewD s a = none) (e3 : viewL s a = none) (e1 : viewT s a = some l) (e2 : atI l i = some d) (h : QA (.val d) s) : Wo QA X (fIxY s a (.val (.int i))) := by
  unfold fIxY; rw [e0]; simp only []
  unfold fIx; simp only []
  split
  · cases n
  · rw [e3]; simp only []; rw [e1]; simp only []; rw [e2]; exact h
theorem w_ixI {a : AI} {ns : List Int} {i : Int} (n : noS a = true) (e0 : viewD s a = none) (e1 : viewL s a = some (ns.map D.int)) (h0 : 0 ≤ i) (h1 : i < ns.length) (h : QA (.val (.int (ns.getD i.toNat 0))) s) : Wo QA X (fIxY s a (.val (.int i))) := w_ixL n e0 e1 (atI_int h0 h1) h
theorem w_ixK {a : AI} {l : List (Key × D)} {i : D} {k : Key} {d : D} (e0 : viewD s a = some l) (ek : keyOf i = some k) (e : vl l k = some d) (h : QA (.val d) s) : Wo QA X (fIxY s a (.val i)) := by
  unfold fIxY; rw [e0]; simp only []
  cases i <;> first | (cases ek; simp only []; rw [e]; exact h) | cases ek
theorem w_tru (h : Wo (fun a s1 => ∃ d b, look s1 a = some d ∧ truD s1.M d = some b ∧ QB b s1) X (m s)) : Wo QB X (mTru m s) := w_bind (w_mono h fun a s1 ⟨d, b, e1, e2, k⟩ => by rw [e1]; show Wo QB X (match truD s1.M d with | some b => Ro.ok b s1 | none => .no); rw [e2]; exact k)
theorem w_bl (h : Wo (fun a s1 => ∃ b, a = .val (.bl b) ∧ QB b s1) X (m s)) : Wo QB X (mBl m s) := w_bind (w_mono h fun a s1 ⟨b, e, k⟩ => by subst e; exact k)
theorem w_blB {b : Bool} (h : QB b s) : ∃ b', AI.val (.bl b) = .val (.bl b') ∧ QB b' s := ⟨b, rfl, h⟩
theorem w_and {c1 c2 : Mo Bool} (h : Wo (fun k s1 => if k = true then Wo QB X (c2 s1) else QB false s1) X (c1 s)) : Wo QB X (mAnd c1 c2 s) := w_bind (w_mono h fun k s1 h => by cases k <;> exact h)
theorem w_or {c1 c2 : Mo Bool} (h : Wo (fun k s1 => if k = true then QB true s1 else Wo QB X (c2 s1)) X (c1 s)) : Wo QB X (mOr c1 c2 s) := w_bind (w_mono h fun k s1 h => by cases k <;> exact h)
theorem w_not {c1 : Mo Bool} (h : Wo (fun k s1 => QB (!k) s1) X (c1 s)) : Wo QB X (mNot c1 s) := w_bind h
theorem w_yes (h : QB true s) : Wo QB X (mYes s) := h
theorem w_andV (h : Wo (fun a s1 => ∃ k, a = .val (.bl k) ∧ if k = true then Wo QA X (m2 s1) else QA (.val (.bl false)) s1) X (m1 s)) : Wo QA X (mAndV m1 m2 s) := w_bind (w_mono h fun a s1 ⟨k, e, h⟩ => by subst e; cases k <;> exact h)
theorem w_orV (h : Wo (fun a s1 => ∃ k, a = .val (.bl k) ∧ if k = true then QA (.val (.bl true)) s1 else Wo QA X (m2 s1)) X (m1 s)) : Wo QA X (mOrV m1 m2 s) := w_bind (w_mono h fun a s1 ⟨k, e, h⟩ => by subst e; cases k <;> exact h)
theorem w_notV (h : Wo (fun a s1 => ∃ k, a = .val (.bl k) ∧ QA (.val (.bl (!k))) s1) X (m1 s)) : Wo QA X (mNotV m1 s) := w_bind (w_mono h fun a s1 ⟨k, e, h⟩ => by subst e; exact h)
theorem w_blV {b : Bool} {P : Bool → Prop} (h : P b) : ∃ k, AI.val (.bl b) = .val (.bl k) ∧ P k := ⟨b, rfl, h⟩
theorem w_ifE {c : Mo Bool} {m1 m2 : Mo α} (h : Wo (fun k s1 => if k = true then Wo Q X (m1 s1) else Wo Q X (m2 s1)) X (c s)) : Wo Q X (mIf c m1 m2 s) := w_bind (w_mono h fun k s1 h => by cases k <;> exact h)
theorem w_chain {f f' : Stt → AI → AI → Ro AI} (h : Wo (fun a s1 => Wo (fun b s2 => Wo (fun z s3 => ∃ k, z = .val (.bl k) ∧ if k = true then Wo (fun c s4 => Wo QA X (f' s4 b c)) X (m3 s3) else QA (.val (.bl false)) s3) X (f s2 a b)) X (m2 s1)) X (m1 s)) : Wo QA X (mChain f f' m1 m2 m3 s) :=
  w_bind (w_mono h fun a s1 h => w_bind (w_mono h fun b s2 h => w_bind (w_mono h fun z s3 ⟨k, e, h⟩ => by subst e; cases k with | true => exact w_bind h | false => exact h)))
theorem w_aNil (h : QL [] s) : Wo QL X (aNil s) := h
theorem w_aCons {r : Mo (List AI)} (h : Wo (fun a s1 => Wo (fun as s2 => QL (a :: as) s2) X (r s1)) X (m s)) : Wo QL X (aCons m r s) := w_bind (w_mono h fun _ _ h => w_bind h)
theorem w_vNil (h : QV [] s) : Wo QV X (vNil s) := h
theorem w_vCons {r : Mo (List D)} (h : Wo (fun d s1 => Wo (fun as s2 => QV (d :: as) s2) X (r s1)) X (mV m s)) : Wo QV X (vCons m r s) := w_bind (w_mono h fun _ _ h => w_bind h)
theorem w_V (h : Wo (fun a s1 => Wo QD X (toV a s1)) X (m s)) : Wo QD X (mV m s) := w_bind h
theorem w_toVV {d : D} (h : QD d s) : Wo QD X (toV (.val d) s) := h
theorem w_toVN {c : Cn} (h : QD c.toD s) : Wo QD X (toV (.new c) s) := h
theorem w_toVS {c : Cn} (e : entAt s i = some (.ow c)) (h : QD c.toD ⟨s.env.set i (some (.fz c.toD)), s.M⟩) : Wo QD X (toV (.slot i) s) := by
  show Wo QD X (match entAt s i with | some (.ow c) => Ro.ok c.toD ⟨s.env.set i (some (.fz c.toD)), s.M⟩ | some (.fz d) => Ro.ok d s | _ => Ro.no)
  rw [e]; exact h
theorem w_lst {r : Mo (List D)} (h : Wo (fun l s1 => l.length ≤ sizeLine ∧ QA (.new (.lst l)) s1) X (r s)) : Wo QA X (mLst r s) := w_bind (w_mono h fun l s1 ⟨c, h⟩ => by show Wo QA X (if _ then _ else _); rw [if_pos c]; exact h)
theorem w_tup {r : Mo (List D)} (h : Wo (fun l s1 => l.length ≤ sizeLine ∧ QA (.val (.tup l)) s1) X (r s)) : Wo QA X (mTup r s) := w_bind (w_mono h fun l s1 ⟨c, h⟩ => by show Wo QA X (if _ then _ else _); rw [if_pos c]; exact h)
theorem w_oNo (h : QO none s) : Wo QO X (oNo s) := h
theorem w_oSm (h : Wo (fun a s1 => ∃ i, a = .val (.int i) ∧ QO (some i) s1) X (m s)) : Wo QO X (oSm m s) := w_bind (w_mono h fun a s1 ⟨i, e, h⟩ => by subst e; exact h)
theorem w_intI {i : Int} {P : Int → Prop} (h : P i) : ∃ k, AI.val (.int i) = .val (.int k) ∧ P k := ⟨i, rfl, h⟩
theorem w_sl {ml mh : Mo (Option Int)} (h : Wo (fun a s1 => Wo (fun l s2 => Wo (fun u s3 => Wo QA X (fSl s3 a l u)) X (mh s2)) X (ml s1)) X (m s)) : Wo QA X (mSl m ml mh s) := w_bind (w_mono h fun _ _ h => w_bind (w_mono h fun _ _ h => w_bind h))
theorem w_slL {a : AI} {l : List D} {lo hi : Option Int} (n : noS a = true) (e : viewL s a = some l) (h : QA (.new (.lst (cutL l lo hi))) s) : Wo QA X (fSl s a lo hi) := by
  unfold fSl
  split
  · cases n
  · rw [e]; exact h
theorem w_slS {x : Str} {lo hi : Option Int} (c : x.length ≤ sizeLine) (h : QA (.val (.str (cutS x lo hi))) s) : Wo QA X (fSl s (.val (.str x)) lo hi) := by
  show Wo QA X (if _ then _ else _); rw [if_pos c]; exact h
theorem w_cb {f : Stt → List AI → Ro AI} {r : Mo (List AI)} (h : Wo (fun as s1 => Wo QA X (f s1 as)) X (r s)) : Wo QA X (mCB f r s) := w_bind h
theorem w_len {a : AI} {d : D} {n : Nat} (e1 : look s a = some d) (e2 : lenD s.M d = some n) (h : QA (.val (.int (n : Int))) s) : Wo QA X (fLen s [a]) := by
  unfold fLen; simp only []; rw [e1]; show Wo QA X (match lenD s.M d with | some n => _ | none => _); rw [e2]; exact h
theorem w_ints {g : List Int → Option D} {a : AI} {l : List D} {ns : List Int} {d : D} (e1 : viewL s a = some l) (e2 : intsD l = some ns) (e3 : g ns = some d) (h : QA (.val d) s) : Wo QA X (fInts g s [a]) := by
  unfold fInts; simp only []; rw [e1]; show Wo QA X (match (intsD l).bind g with | some d => _ | none => _); rw [e2]; show Wo QA X (match g ns with | some d => _ | none => _); rw [e3]; exact h
theorem w_bls {g : List Bool → D} {a : AI} {l : List D} {bs : List Bool} (e1 : viewL s a = some l) (e2 : blsD l = some bs) (h : QA (.val (g bs)) s) : Wo QA X (fBls g s [a]) := by
  unfold fBls; simp only []; rw [e1]; show Wo QA X (match blsD l with | some d => _ | none => _); rw [e2]; exact h
theorem w_I2 {g : Int → Int → Int} {i j : Int} (h : QA (.val (.int (g i j))) s) : Wo QA X (fI2 g s [.val (.int i), .val (.int j)]) := h
theorem w_list {a : AI} {l : List D} (e : viewL s a = some l) (h : QA (.new (.lst l)) s) : Wo QA X (fList s [a]) := by unfold fList; simp only []; rw [e]; exact h
theorem w_listT {a : AI} {l : List D} (e0 : viewL s a = none) (e : viewT s a = some l) (h : QA (.new (.lst l)) s) : Wo QA X (fList s [a]) := by unfold fList; simp only []; rw [e0]; simp only []; rw [e]; exact h
theorem w_intB {k : Bool} (h : QA (.val (.int (if k then 1 else 0))) s) : Wo QA X (fInt s [.val (.bl k)]) := h
theorem w_isi {a : AI} {n : String} {t : String} {d : D} {b : Bool} (e1 : look s a = some d) (e2 : kindD s.M d = some n) (e3 : kitB n t = some b) (h : QA (.val (.bl b)) s) : Wo QA X (fIsi s [a, .val (.ty t)]) := by
  unfold fIsi; simp only []; rw [e1]; show Wo QA X (match (kindD s.M d).bind fun n => kitB n t with | some b => _ | none => _); rw [e2]; show Wo QA X (match kitB n t with | some b => _ | none => _); rw [e3]; exact h
theorem w_bm {f : Stt → AI → List D → Ro AI} {mo : Mo AI} {ma : Mo (List D)} (h : Wo (fun a s1 => ∃ l, viewL s1 a = some l ∧ Wo (fun ds s2 => Wo QA X (f s2 a ds)) X (ma s1)) X (mo s)) : Wo QA X (mBM f mo ma s) := w_bind (w_mono h fun a s1 ⟨l, e, h⟩ => by
  show Wo QA X (match viewL s1 a with | some _ => _ | none => _); rw [e]; exact w_bind h)
theorem w_app {a : AI} {l : List D} {d : D} (e : getC s a = some (.lst l)) (c : l.length < sizeLine) (h : QA (.val .non) (setC s a (.lst (l ++ [d])))) : Wo QA X (fApp s a [d]) := by
  unfold fApp; rw [e]; simp only []; rw [if_pos c]; exact h
theorem w_ext {a : AI} {l l' : List D} {d : D} (e : getC s a = some (.lst l)) (e2 : listX s.M d = some l') (c : l.length + l'.length ≤ sizeLine) (h : QA (.val .non) (setC s a (.lst (l ++ l')))) : Wo QA X (fExt s a [d]) := by
  unfold fExt; simp only []; rw [e, e2]; simp only []; rw [if_pos c]; exact h
theorem w_rev {a : AI} {l : List D} (e : getC s a = some (.lst l)) (h : QA (.val .non) (setC s a (.lst l.reverse))) : Wo QA X (fRev s a []) := by
  unfold fRev; rw [e]; exact h
theorem w_callN {f : Mf} {ma : Mo (List D)} (h : Wo (fun ds s1 => Fo (fun a M' => QA a ⟨s1.env, M'⟩) (f ds s1.M)) X (ma s)) : Wo QA X (mCallN f ma s) := w_bind (w_mono h fun ds s1 h => by
  show Wo QA X (match f ds s1.M with | .ok a M' => _ | _ => _)
  cases q : f ds s1.M <;> rw [q] at h <;> exact h)
theorem fo_eq {P : AI → List Cn → Prop} {r : Fr} {a : AI} {M' : List Cn} (e : r = .ok a M') (h : P a M') : Fo P r := by subst e; exact h
theorem fo_ok {P : AI → List Cn → Prop} {r : Fr} {a : AI} {M' : List Cn} (h : Fo (fun a' M'' => a' = a ∧ M'' = M') r) : r = .ok a M' := by
  cases r with
  | ok a' M'' => obtain ⟨rfl, rfl⟩ := h; rfl
  | er _ _ => exact False.elim h
  | no => exact False.elim h
/-- how a def ends -/
def Oe (P : AI → List Cn → Prop) : Rs → Prop
  | .rt a s => P a s.M
  | _ => False
theorem f_fn {P : AI → List Cn → Prop} {np n : Nat} {b : Ms} {ds : List D} (hl : ds.length = np) (h : Ws (fun s => P (.val .non) s.M) (Oe P) (b ⟨ds.map (fun d => some (.fz d)) ++ List.replicate (n - ds.length) none, M⟩)) : Fo P (mFn np n b ds M) := by
  unfold mFn
  rw [if_pos hl]
  cases q : b ⟨ds.map (fun d => some (.fz d)) ++ List.replicate (n - ds.length) none, M⟩ <;> rw [q] at h <;> exact h
theorem w_aug {f : Int → Int → Int} {x : Int} (e : entAt s i = some (.fz (.int x))) (h : Wo (fun a s1 => ∃ y, a = .val (.int y) ∧ N ⟨s1.env.set i (some (.fz (.int (f x y)))), s1.M⟩) (fun x s => O (.er x s)) (m s)) : Ws N O (mAug i f m s) := by
  unfold mAug; rw [e]
  exact w_toS (w_mono h fun a s1 ⟨y, e, h⟩ => by subst e; exact h)
theorem w_asgT {g : Tg} (h : Wo (fun d s1 => So N (g d s1)) (fun x s => O (.er x s)) (mV m s)) : Ws N O (mAsgT g m s) := w_toS (w_mono h fun d s1 h => by
  show Ws N O (match g d s1 with | some s2 => .nx s2 | none => .no)
  cases q : g d s1 <;> rw [q] at h <;> exact h)
theorem w_asgS {mo mi mv : Mo AI} (h : Wo (fun d s1 => Wo (fun a s2 => Wo (fun i s3 => So N (setIt a i d s3)) (fun x s => O (.er x s)) (mV mi s2)) (fun x s => O (.er x s)) (mo s1)) (fun x s => O (.er x s)) (mV mv s)) : Ws N O (mAsgS mo mi mv s) :=
  w_toS (w_mono h fun d s1 h => w_toS (w_mono h fun a s2 h => w_toS (w_mono h fun i s3 h => by
    show Ws N O (match setIt a i d s3 with | some s4 => .nx s4 | none => .no)
    cases q : setIt a i d s3 <;> rw [q] at h <;> exact h)))
theorem so_set {P : Stt → Prop} {s' : Stt} {r : Option Stt} (e : r = some s') (h : P s') : So P r := by subst e; exact h
/-! ### loops -/
def Lo (P N : Stt → Prop) (O : Rs → Prop) : Rs → Prop
  | .ct s => P s
  | .bk s => N s
  | r => O r
theorem w_for {mi : Mo Im} {g : Tg} {b : Ms} (h : Wo (fun im s1 => Ws N O (forN g b im.ck im.xs s1)) (fun x s => O (.er x s)) (mi s)) : Ws N O (mFor mi g b s) := w_toS h
theorem w_forN {g : Tg} {b : Ms} {xs : List D} (P : Nat → Stt → Prop) (h0 : P 0 s) (hs : ∀ i x s, xs[i]? = some x → P i s → So (fun s1 => Ws (P (i + 1)) (Lo (P (i + 1)) N O) (b s1)) (g x s)) (hd : ∀ s, P xs.length s → N s) : Ws N O (forN g b none xs s) := by
  induction xs generalizing P s with
  | nil => rw [forN_nil]; exact hd s h0
  | cons x xs ih =>
    have h1 := hs 0 x s rfl h0
    cases hg : g x s with
    | none => rw [hg] at h1; exact False.elim h1
    | some s1 =>
      rw [hg] at h1
      have h1 : Ws (P 1) (Lo (P 1) N O) (b s1) := h1
      rw [forN_cons hg]
      cases hb : b s1 with
      | nx s2 => rw [hb] at h1; exact ih (fun i => P (i + 1)) h1 (fun i y s e => hs (i + 1) y s e) hd
      | ct s2 => rw [hb] at h1; exact ih (fun i => P (i + 1)) h1 (fun i y s e => hs (i + 1) y s e) hd
      | bk s2 => rw [hb] at h1; exact h1
      | rt a s2 => rw [hb] at h1; exact h1
      | er x s2 => rw [hb] at h1; exact h1
      | no => rw [hb] at h1; exact h1
theorem w_while {c : Mo Bool} {b : Ms} (P : Nat → Stt → Prop) (n : Nat) (h0 : P n s) (hs : ∀ n s, P n s → Wo (fun k s1 => if k = true then Ws (fun s2 => ∃ m, m < n ∧ P m s2) (Lo (fun s2 => ∃ m, m < n ∧ P m s2) N O) (b s1) else N s1) (fun x s => O (.er x s)) (c s)) (hO : ∀ r, O r → r ≠ .no) : Ws N O (mWh c b s) := by
  have key : ∀ n s, P n s → ∃ k r, whN c b k s = r ∧ r ≠ .no ∧ Ws N O r := by
    intro n
    induction n using Nat.strongRecOn with
    | ind n ih =>
      intro s h
      have h1 := hs n s h
      cases hc : c s with
      | no => rw [hc] at h1; exact False.elim h1
      | er x s1 => rw [hc] at h1; exact ⟨1, .er x s1, by unfold whN; rw [hc]; rfl, (fun z => nomatch z), h1⟩
      | ok k s1 =>
        rw [hc] at h1
        have h1 : if k = true then Ws (fun s2 => ∃ m, m < n ∧ P m s2) (Lo (fun s2 => ∃ m, m < n ∧ P m s2) N O) (b s1) else N s1 := h1
        cases k with
        | false =>
          rw [if_neg Bool.false_ne_true] at h1
          exact ⟨1, .nx s1, by unfold whN; rw [hc]; rfl, (fun z => nomatch z), h1⟩
        | true =>
          rw [if_pos rfl] at h1
          have go : ∀ s2, (∃ m, m < n ∧ P m s2) → (b s1 = .nx s2 ∨ b s1 = .ct s2) → ∃ k r, whN c b k s = r ∧ r ≠ .no ∧ Ws N O r := by
            rintro s2 ⟨m, hm, hp⟩ hb
            obtain ⟨k, r, e, nr, w⟩ := ih m hm s2 hp
            refine ⟨k + 1, r, ?_, nr, w⟩
            unfold whN; rw [hc]
            show (if true = true then (match b s1 with | .nx s2 => whN c b k s2 | .ct s2 => whN c b k s2 | .bk s2 => .nx s2 | .rt a s2 => .rt a s2 | .er x s2 => .er x s2 | .no => .no) else Rs.nx s1) = _
            rw [if_pos rfl]
            rcases hb with hb | hb <;> rw [hb] <;> exact e
          have fin : ∀ r0 r, b s1 = r0 → (match r0 with | .nx s2 => whN c b 0 s2 | .ct s2 => whN c b 0 s2 | .bk s2 => .nx s2 | .rt a s2 => .rt a s2 | .er x s2 => .er x s2 | .no => .no) = r → whN c b 1 s = r := by
            intro r0 r hb e
            unfold whN; rw [hc]
            show (if true = true then (match b s1 with | .nx s2 => whN c b 0 s2 | .ct s2 => whN c b 0 s2 | .bk s2 => .nx s2 | .rt a s2 => .rt a s2 | .er x s2 => .er x s2 | .no => .no) else Rs.nx s1) = _
            rw [if_pos rfl, hb]; exact e
          cases hb : b s1 with
          | nx s2 => rw [hb] at h1; exact go s2 h1 (.inl hb)
          | ct s2 => rw [hb] at h1; exact go s2 h1 (.inr hb)
          | bk s2 => rw [hb] at h1; exact ⟨1, .nx s2, fin _ _ hb rfl, (fun z => nomatch z), h1⟩
          | rt a s2 => rw [hb] at h1; exact ⟨1, .rt a s2, fin _ _ hb rfl, (fun z => nomatch z), h1⟩
          | er x s2 => rw [hb] at h1; exact ⟨1, .er x s2, fin _ _ hb rfl, (fun z => nomatch z), h1⟩
          | no => rw [hb] at h1; exact False.elim h1
  obtain ⟨k, r, e, nr, w⟩ := key n s h0
  rw [mWh_eq e nr]; exact w
theorem oe_no {P : AI → List Cn → Prop} : ∀ r, Oe P r → r ≠ .no := fun r h z => by subst z; exact h
theorem lo_no {P N : Stt → Prop} (h : ∀ r, O r → r ≠ .no) : ∀ r, Lo P N O r → r ≠ .no := fun r h1 z => by subst z; exact h _ h1 rfl
theorem w_rng1 {r : Mo (List AI)} (h : Wo (fun as s1 => ∃ n : Int, as = [.val (.int n)] ∧ (-(2 ^ 62) ≤ n ∧ n < 2 ^ 62) ∧ QI ⟨rng 0 n.toNat, none⟩ s1) X (r s)) : Wo QI X (mRng1 r s) := w_bind (w_mono h fun as s1 ⟨n, e, c, h⟩ => by subst e; show Wo QI X (if _ then _ else _); rw [if_pos c]; exact h)
theorem w_rng1I {n : Int} {P : Int → Prop} (c : -(2 ^ 62) ≤ n ∧ n < 2 ^ 62) (h : P n) : ∃ m : Int, [AI.val (.int n)] = [.val (.int m)] ∧ (-(2 ^ 62) ≤ m ∧ m < 2 ^ 62) ∧ P m := ⟨n, rfl, c, h⟩
theorem w_rng2 {r : Mo (List AI)} (h : Wo (fun as s1 => ∃ i j : Int, as = [.val (.int i), .val (.int j)] ∧ (-(2 ^ 62) ≤ i ∧ i < 2 ^ 62 ∧ -(2 ^ 62) ≤ j ∧ j < 2 ^ 62) ∧ QI ⟨rng i (j - i).toNat, none⟩ s1) X (r s)) : Wo QI X (mRng2 r s) := w_bind (w_mono h fun as s1 ⟨i, j, e, c, h⟩ => by subst e; show Wo QI X (if _ then _ else _); rw [if_pos c]; exact h)
theorem w_rng2I {i j : Int} {P : Int → Int → Prop} (c : -(2 ^ 62) ≤ i ∧ i < 2 ^ 62 ∧ -(2 ^ 62) ≤ j ∧ j < 2 ^ 62) (h : P i j) : ∃ i' j' : Int, [AI.val (.int i), .val (.int j)] = [.val (.int i'), .val (.int j')] ∧ (-(2 ^ 62) ≤ i' ∧ i' < 2 ^ 62 ∧ -(2 ^ 62) ≤ j' ∧ j' < 2 ^ 62) ∧ P i' j' := ⟨i, j, rfl, c, h⟩
theorem w_wl (h : Wo (fun d s1 => ∃ l, Y.listOf s1.M d = some l ∧ QI ⟨l, ckOf d l⟩ s1) X (mV m s)) : Wo QI X (mWL m s) := w_bind (w_mono h fun d s1 ⟨l, e, h⟩ => by show Wo QI X (match Y.listOf s1.M d with | some l => _ | none => _); rw [e]; exact h)
theorem w_wlI {d : D} {l : List D} {P : List D → Prop} (e : Y.listOf s.M d = some l) (h : P l) : ∃ l', Y.listOf s.M d = some l' ∧ P l' := ⟨l, e, h⟩
theorem w_wt (h : Wo (fun d s1 => ∃ l, tupOf d = some l ∧ QI ⟨l, none⟩ s1) X (mV m s)) : Wo QI X (mWT m s) := w_bind (w_mono h fun d s1 ⟨l, e, h⟩ => by show Wo QI X (match tupOf d with | some l => _ | none => _); rw [e]; exact h)
theorem w_we {r : Mo (List D)} (h : Wo (fun ds s1 => ∃ d l, ds = [d] ∧ Y.listOf s1.M d = some l ∧ QI ⟨enumL l, ckOf d l⟩ s1) X (r s)) : Wo QI X (mWE r s) := w_bind (w_mono h fun ds s1 ⟨d, l, e0, e, h⟩ => by subst e0; show Wo QI X (match Y.listOf s1.M d with | some l => _ | none => _); rw [e]; exact h)
theorem w_weI {d : D} {l : List D} {P : D → List D → Prop} (e : Y.listOf s.M d = some l) (h : P d l) : ∃ d' l', [d] = [d'] ∧ Y.listOf s.M d' = some l' ∧ P d' l' := ⟨d, l, rfl, e, h⟩
theorem w_ws (h : Wo (fun a s1 => ∃ x, a = .val (.str x) ∧ QI ⟨strL x, none⟩ s1) X (m s)) : Wo QI X (mWS m s) := w_bind (w_mono h fun a s1 ⟨x, e, h⟩ => by subst e; exact h)
theorem w_lc {ws : List Nat} {mi : Mo Im} {g : Tg} {c : Mo Bool} {e : Mo AI} (h : Wo (fun im s1 => ∃ l s2, lcN ws g c (mV e) im.ck im.xs [] (wipeS ws s1) = .ok l s2 ∧ QA (.new (.lst l)) ⟨Y.rest s1.env s2.env ws, s2.M⟩) X (mi s)) : Wo QA X (mLc ws mi g c e s) := w_bind (w_mono h fun im s1 ⟨l, s2, e, h⟩ => by
  show Wo QA X (match lcN ws g c (mV _) im.ck im.xs [] (wipeS ws s1) with | .ok l s2 => _ | _ => _)
  rw [e]; exact h)
/-- every item is f of its part; the state comes back -/
theorem w_lcMap {ws : List Nat} {g : Tg} {e : Mo D} {xs : List D} {P : List D → Stt → Prop} (f : D → D) (hz : xs.length ≤ sizeLine) (h : ∀ x ∈ xs, So (fun s1 => Wo (fun d s2 => d = f x ∧ wipeS ws s2 = s) Xf (e s1)) (g x s)) (k : P (xs.map f) s) : ∃ l s2, lcN ws g mYes e none xs [] s = .ok l s2 ∧ P l s2 := by
  refine ⟨xs.map f, s, ?_, k⟩
  have := lc_map (ws := ws) (g := g) (e := e) (s := s) f hz (fun x hx => by
    have h1 := h x hx
    cases hg : g x s with
    | none => rw [hg] at h1; exact h1
    | some s1 =>
      rw [hg] at h1
      have h1 : Wo (fun d s2 => d = f x ∧ wipeS ws s2 = s) Xf (e s1) := h1
      show Ok _ (e s1)
      cases q : e s1 <;> rw [q] at h1 <;> exact h1) [] (by simpa using hz)
  simpa using this
theorem w_lcInv {ws : List Nat} {g : Tg} {e : Mo D} {xs : List D} {P : List D → Stt → Prop} (I : Nat → List D → Stt → Prop) (h0 : I 0 [] s) (hz : xs.length ≤ sizeLine) (h : ∀ i x acc s, xs[i]? = some x → I i acc s → So (fun s1 => Wo (fun d s2 => I (i + 1) (acc ++ [d]) (wipeS ws s2)) Xf (e s1)) (g x s)) (k : ∀ l s', I xs.length l s' → P l s') : ∃ l s2, lcN ws g mYes e none xs [] s = .ok l s2 ∧ P l s2 := by
  obtain ⟨l, s', e1, h1⟩ := lc_inv (ws := ws) (g := g) (e := e) (xs := xs) I [] h0 (by simpa using hz) (fun i x acc s hx hi => by
    have h1 := h i x acc s hx hi
    cases hg : g x s with
    | none => rw [hg] at h1; exact h1
    | some s1 =>
      rw [hg] at h1
      have h1 : Wo (fun d s2 => I (i + 1) (acc ++ [d]) (wipeS ws s2)) Xf (e s1) := h1
      show Ok _ (e s1)
      cases q : e s1 <;> rw [q] at h1 <;> exact h1)
  exact ⟨l, s', e1, k l s' h1⟩
theorem so_some {P : Stt → Prop} (h : P s) : So P (some s) := h
end
end Y
namespace Y
open PySem L2 Z
section
variable {QA : AI → Stt → Prop} {X : Exn → Stt → Prop} {s : Stt}
theorem shaped_str {x : Str} (h : PySem.PyData.strOk x = true) : SeqAt.shaped (.str x) = true := by
  unfold SeqAt.shaped
  rw [show PyData.canLay0 (.str x) = true from h]; rfl
theorem eqv_str (x y : Str) : PyData.eqv (.str x) (.str y) = decide (x = y) := by
  show (x == y) = _
  by_cases h : x = y
  · subst h; simp
  · simp [h]
theorem w_eqS {x y : Str} (c : PySem.PyData.strOk x = true) (c' : PySem.PyData.strOk y = true) (h : QA (.val (.bl (decide (x = y)))) s) : Wo QA X (fEq s (.val (.str x)) (.val (.str y))) :=
  w_eq (eqOf_of (x := .str x) (y := .str y) rfl rfl (shaped_str c) (shaped_str c') (eqv_str x y)) h
theorem w_neS {x y : Str} (c : PySem.PyData.strOk x = true) (c' : PySem.PyData.strOk y = true) (h : QA (.val (.bl (!decide (x = y)))) s) : Wo QA X (fNe s (.val (.str x)) (.val (.str y))) :=
  w_ne (eqOf_of (x := .str x) (y := .str y) rfl rfl (shaped_str c) (shaped_str c') (eqv_str x y)) h
end
end Y

namespace Y
open PySem L2 Z
/-! ## calls that only read, and tell a plain value -/
mutual
def D.noId : D → Bool
  | .tup l => D.noIdL l
  | .ctp l => D.noIdL l
  | .lst l => D.noIdL l
  | .clst l => D.noIdL l
  | .dK l => D.noIdK l
  | .dT l => D.noIdT l
  | .cid _ => false
  | _ => true
def D.noIdL : List D → Bool
  | [] => true
  | d :: l => d.noId && D.noIdL l
def D.noIdK : List (Key × D) → Bool
  | [] => true
  | (_, d) :: l => d.noId && D.noIdK l
def D.noIdT : List (List Key × D) → Bool
  | [] => true
  | (_, d) :: l => d.noId && D.noIdT l
end
def D.scal : D → Bool
  | .non => true
  | .bl _ => true
  | .int _ => true
  | .str _ => true
  | _ => false
section
variable {K : PySem.W.Frag} {ct : Ct} {H0 : Hp} {W : WX} {S : Sh} {s : Stt} {σ : St} {H : Hp} {G : Hp} {α α' : Nat → Addr} {n : Nat}
theorem noIdK_vals : ∀ {l : List (Key × D)}, D.noIdK l = true → D.noIdL (l.map Prod.snd) = true
  | [], _ => rfl
  | (k, d) :: l, h => by
    have h : (d.noId && D.noIdK l) = true := h
    rw [Bool.and_eq_true] at h
    show (d.noId && D.noIdL (l.map Prod.snd)) = true
    rw [h.1, noIdK_vals h.2]; rfl
theorem noIdT_vals : ∀ {l : List (List Key × D)}, D.noIdT l = true → D.noIdL (l.map Prod.snd) = true
  | [], _ => rfl
  | (k, d) :: l, h => by
    have h : (d.noId && D.noIdT l) = true := h
    rw [Bool.and_eq_true] at h
    show (d.noId && D.noIdL (l.map Prod.snd)) = true
    rw [h.1, noIdT_vals h.2]; rfl
mutual
theorem Rp.noId : ∀ {v : V} {d : D}, Rp K G α n v d → d.noId = true → Rp K G α' 0 v d
  | _, _, .non, _ => .non
  | _, _, .bl b, _ => .bl b
  | _, _, .int i, _ => .int i
  | _, _, .str x, _ => .str x
  | _, _, .ty x, _ => .ty x
  | _, _, .tup h r, e => .tup h (RpL.noId r e)
  | _, _, .ctp h r, e => .ctp h (RpL.noId r e)
  | _, _, .lst h r, e => .lst h (RpL.noId r e)
  | _, _, .clst h r, e => .clst h (RpL.noId r e)
  | _, _, .dK h q r, e => .dK h q (RpL.noId r (noIdK_vals e))
  | _, _, .dT h q r, e => .dT h q (RpL.noId r (noIdT_vals e))
  | _, _, .cid h, e => by cases e
theorem RpL.noId : ∀ {vs : List V} {l : List D}, RpL K G α n vs l → D.noIdL l = true → RpL K G α' 0 vs l
  | _, _, .nil, _ => .nil
  | _, _, .cons (d := d) (l := l) h r, e => by
    have e : (d.noId && D.noIdL l) = true := e
    rw [Bool.and_eq_true] at e
    exact .cons (Rp.noId h e.1) (RpL.noId r e.2)
end
theorem Rp.scal {G' : Hp} {n' : Nat} {v : V} {d : D} (h : Rp K G α n v d) (e : d.scal = true) : Rp K G' α' n' v d := by
  cases h <;> first | exact .non | exact .bl _ | exact .int _ | exact .str _ | cases e
theorem Rel.grow {H' : Hp} (r : Rel K ct H0 S s σ H) (k : ∀ a o, H a = some o → H' a = some o) : Rel K ct H0 S s σ H' := by
  have cn : ∀ {a : Addr} {c : Cn}, CnOk K ct S s.M.length H a c → CnOk K ct S s.M.length H' a c := fun {a c} h => h.mono (fun _ _ e => e) (fun _ _ => rfl) (Nat.le_refl _) (fun o e => k a o e)
  refine ⟨fun a o e => U_grow (fun o' e' => k a o' e') (r.sub a o e), fun a l e => ?_, fun a e => ?_, r.len, fun i e h => ?_, fun j c h => ?_⟩
  · obtain ⟨h1, o, h2⟩ := r.lg a l e
    exact ⟨h1, o, k a o h2⟩
  · cases q : H a with
    | none => exact r.dom a q
    | some o => have := k a o q; rw [e] at this; cases this
  · have q := r.slot i e h
    cases e with
    | fz d => exact q
    | xn x => exact xn_mono (S := S) (n := s.M.length) (H := H) (fun _ _ e => e) (fun _ _ => rfl) (Nat.le_refl _) rfl q
    | ow c =>
      obtain ⟨a, h1, h2, h3, h4, h5⟩ := q
      exact ⟨a, h1, h2, h3, h4, cn h5⟩
  · obtain ⟨h1, h2⟩ := r.ids j c h
    exact ⟨h1, cn h2⟩
def snap (s : Stt) : List AI → Option (List D)
  | [] => some []
  | a :: as => (look s a).bind fun d => (snap s as).map (d :: ·)
theorem snap_ok {Hs : Hp} (rel : Rel K ct H0 S s σ H) : ∀ {vs : List V} {as : List AI} {ds : List D}, AsOk K ct Hs S s σ H vs as → snap s as = some ds → RpL K (U ct.lk H) S.α s.M.length vs ds
  | _, _, _, .nil, e => by cases e; exact .nil
  | _, _, _, .cons (a := a) (as := as) i r, e => by
    obtain ⟨d, e1, e2⟩ := Option.bind_eq_some_iff.mp (show ((look s a).bind fun d => (snap s as).map (d :: ·)) = some _ from e)
    obtain ⟨ds, e3, rfl⟩ := Option.map_eq_some_iff.mp e2
    exact .cons (look_ok rel i e1) (snap_ok rel r e3)
def mCallB (f : Mf) (m : Mo (List AI)) : Mo AI := fun s => (m s).bind fun as s1 => match snap s1 as with
  | some ds => if D.noIdL ds = true then (match f ds [] with
    | .ok (.val d) _ => if d.scal = true then .ok (.val d) s1 else .no
    | _ => .no) else .no
  | none => .no
theorem ei_callB {f : Mf} {E : XK} {t : TA} {m : Mo (List AI)} (h : EaL K ct H0 W t m) : Ei K ct H0 W (tCallZ (spM K ct f) E t) (mCallB f m) := fun S s σ H Q rel p =>
  h S s σ H _ rel (Pst.bind bI p fun S1 s1 H1 vs as st1 rel1 i1 p1 => by
    split at p1
    · rename_i ds e
      split at p1
      · rename_i hn
        refine ⟨⟨U ct.lk H1, S1.α, fun _ => none⟩, [], ds, ⟨fun _ _ e => e, (fun a l e => nomatch e), fun _ e => e, rfl, (fun i e q => by simp at q), (fun k c q => by simp at q)⟩, (snap_ok rel1 i1 e).noId hn, ?_⟩
        split at p1
        · rename_i d M' ef
          rw [ef]
          split at p1
          · rename_i hs
            intro S' v H' st rel' it
            have k : ∀ a o, H1 a = some o → H' a = some o := fun a o e => (st.fr a o e rfl).1
            exact p1 S1 v H' ⟨fun _ _ e => e, Nat.le_refl _, fun _ _ => rfl, fun a o e l => ⟨k a o e, l⟩, fun _ _ e => .inl e, st.dom⟩ (rel1.grow k) (Rp.scal it hs)
          · exact False.elim p1
        · exact False.elim p1
      · exact False.elim p1
    · exact False.elim p1)
variable {QA : AI → Stt → Prop} {X : Exn → Stt → Prop}
theorem w_callB {f : Mf} {m : Mo (List AI)} (h : Wo (fun as s1 => ∃ ds d M', snap s1 as = some ds ∧ D.noIdL ds = true ∧ f ds [] = .ok (.val d) M' ∧ d.scal = true ∧ QA (.val d) s1) X (m s)) : Wo QA X (mCallB f m s) := w_bind (w_mono h fun as s1 ⟨ds, d, M', e1, e2, e3, e4, h⟩ => by
  show Wo QA X (match snap s1 as with | some ds => _ | none => _)
  rw [e1]; show Wo QA X (if _ then _ else _); rw [if_pos e2, e3]; show Wo QA X (if _ then _ else _); rw [if_pos e4]; exact h)
theorem noIdL_ints (ns : List Int) : D.noIdL (ns.map D.int) = true := by
  induction ns with
  | nil => rfl
  | cons n ns ih => show (true && D.noIdL (ns.map D.int)) = true; rw [ih]; rfl
theorem noIdL_map {β : Type} {f : β → D} (h : ∀ b, (f b).noId = true) (l : List β) : D.noIdL (l.map f) = true := by
  induction l with
  | nil => rfl
  | cons n ns ih => show ((f n).noId && D.noIdL (ns.map f)) = true; rw [ih, h n]; rfl
/-! ## == of a thing and itself -/
mutual
theorem eqv_self : ∀ x : PyData, x.canLay0 = true → x.eqv x = true
  | .none, _ => rfl
  | .bool b, _ => by show (b == b) = true; simp
  | .int i, _ => by show (i == i) = true; simp
  | .str x, _ => by show (x == x) = true; simp
  | .list xs, h => eqvAll_self xs h
  | .tuple xs, h => eqvAll_self xs h
  | .dict _, h => by cases h
theorem eqvAll_self : ∀ xs : List PyData, PyData.canLayAll0 xs = true → PyData.eqvAll xs xs = true
  | [], _ => rfl
  | x :: xs, h => by
    have h : (x.canLay0 && PyData.canLayAll0 xs) = true := h
    rw [Bool.and_eq_true] at h
    show (x.eqv x && PyData.eqvAll xs xs) = true
    rw [eqv_self x h.1, eqvAll_self xs h.2]; rfl
end
theorem eqOf_same {a b : AI} {x : PyData} (e1 : pyOf s a = some x) (e2 : pyOf s b = some x) (h : SeqAt.shaped x = true) : eqOf s a b = some true :=
  eqOf_of e1 e2 h h (eqv_self x (by unfold SeqAt.shaped at h; rw [Bool.and_eq_true] at h; exact h.1))
theorem pyL_map {β : Type} {f : β → D} {g : β → PyData} (h : ∀ b, (f b).py = some (g b)) (l : List β) : D.pyL (l.map f) = some (l.map g) := by
  induction l with
  | nil => rfl
  | cons n ns ih => show ((f n).py).bind (fun x => (D.pyL (ns.map f)).map (x :: ·)) = _; rw [ih, h n]; rfl
theorem canLay_map {β : Type} {g : β → PyData} (h : ∀ b, (g b).canLay0 = true) (l : List β) : PyData.canLayAll0 (l.map g) = true := by
  induction l with
  | nil => rfl
  | cons n ns ih => show ((g n).canLay0 && PyData.canLayAll0 (ns.map g)) = true; rw [ih, h n]; rfl
theorem depth_map {β : Type} {g : β → PyData} {k : Nat} (h : ∀ b, (g b).depth ≤ k) (l : List β) : PyData.depthAll (l.map g) ≤ k := by
  induction l with
  | nil => exact Nat.zero_le _
  | cons n ns ih => show max (g n).depth (PyData.depthAll (ns.map g)) ≤ k; have := h n; omega
theorem shaped_map {β : Type} {g : β → PyData} (h : ∀ b, (g b).canLay0 = true) (h2 : ∀ b, (g b).depth ≤ 40) (l : List β) : SeqAt.shaped (.list (l.map g)) = true := by
  unfold SeqAt.shaped
  rw [show PyData.canLay0 (.list (l.map g)) = true from canLay_map h l]
  have : PyData.depth (.list (l.map g)) ≤ 64 := by show PyData.depthAll (l.map g) + 1 ≤ 64; have := depth_map h2 l; omega
  rw [decide_eq_true this]; rfl
end
end Y
namespace Y
theorem fo_use {P P' : AI → List Cn → Prop} {r : Fr} (h : Fo P r) (k : ∀ a M', P a M' → P' a M') : Fo P' r := by
  cases r with
  | ok a M => exact k a M h
  | er _ _ => exact h
  | no => exact h
end Y
namespace Y
theorem w_neg {QA : AI → Stt → Prop} {X : Exn → Stt → Prop} {s : Stt} {i : Int} (h : QA (.val (.int (-i))) s) : Wo QA X (fNeg s (.val (.int i))) := h
end Y
namespace Y
section
variable {P : Bool → Prop} {s : Stt}
theorem w_truB {b : Bool} (h : P b) : ∃ d b', look s (.val (.bl b)) = some d ∧ truD s.M d = some b' ∧ P b' := ⟨_, _, rfl, rfl, h⟩
theorem w_truI {i : Int} (h : P (!decide (i = 0))) : ∃ d b', look s (.val (.int i)) = some d ∧ truD s.M d = some b' ∧ P b' := ⟨_, _, rfl, rfl, h⟩
end
end Y

namespace Y
open PySem L2 Z
section
variable {K : PySem.W.Frag} {ct : Ct} {H0 : Hp} {W : WX} {S : Sh} {s : Stt} {σ : St} {H : Hp}
/-! ## more methods of lists -/
def fClr (s : Stt) (a : AI) (ds : List D) : Ro AI := match ds, getC s a with
  | [], some (.lst l) => .ok (.val .non) (setC s a (.lst []))
  | _, _ => .no
theorem jm_clr : JM K ct H0 rClear fClr := fun W S s σ H Hs x a vs ds Q rel i r p => by
  unfold fClr at p
  split at p
  · rename_i l e
    obtain ⟨q, rfl, ⟨us, h1, h2⟩, h3⟩ := mut_ok rel i e
    cases r
    exact ⟨q, us, rfl, rfl, h1, p.mut (h3 _ (.lst []) (fun _ => rfl) ⟨_, upd_same, .nil⟩)⟩
  · exact False.elim p
/-- == of two flat things of one kind -/
def sameK : D → D → Option Bool
  | .int a, .int b => some (a == b)
  | .str a, .str b => some (a == b)
  | .bl a, .bl b => some (a == b)
  | _, _ => none
theorem sameK_rp {G : Hp} {α : Nat → Addr} {n : Nat} {v u : V} {z d : D} {b : Bool} (h : Rp K G α n v z) (h' : Rp K G α n u d) (e : sameK z d = some b) : flatV v = true ∧ flatV u = true ∧ eqV v u = b := by
  unfold sameK at e
  split at e
  · rw [rp_int h, rp_int h']; cases e; exact ⟨rfl, rfl, rfl⟩
  · rw [rp_str h, rp_str h']; cases e; exact ⟨rfl, rfl, rfl⟩
  · rw [rp_bl h, rp_bl h']; cases e; exact ⟨rfl, rfl, rfl⟩
  · cases e
theorem sameK_flat {d z : D} {b : Bool} {G : Hp} {α : Nat → Addr} {n : Nat} {u : V} (h' : Rp K G α n u d) (e : sameK z d = some b) : flatV u = true := by
  unfold sameK at e
  split at e
  · rw [rp_int h']; rfl
  · rw [rp_str h']; rfl
  · rw [rp_bl h']; rfl
  · cases e
def fIdx (s : Stt) (a : AI) (ds : List D) : Ro AI := match ds with
  | [d] => match viewL s a with
    | some l => if l.all (fun z => (sameK z d).isSome) = true then (match l.findIdx? (fun z => sameK z d == some true) with | some j => .ok (.val (.int (j : Nat))) s | none => .no) else .no
    | none => .no
  | _ => .no
theorem rpl_at {G : Hp} {α : Nat → Addr} {n : Nat} : ∀ {vs : List V} {l : List D} {j : Nat} {v : V}, RpL K G α n vs l → vs[j]? = some v → ∃ d, l[j]? = some d ∧ Rp K G α n v d
  | _, _, 0, v, .cons h r, e => by cases e; exact ⟨_, rfl, h⟩
  | _, _, j + 1, v, .cons h r, e => by
    obtain ⟨d, e1, e2⟩ := rpl_at (j := j) r (by simpa using e)
    exact ⟨d, by simpa using e1, e2⟩
theorem rpl_at' {G : Hp} {α : Nat → Addr} {n : Nat} : ∀ {vs : List V} {l : List D} {j : Nat} {d : D}, RpL K G α n vs l → l[j]? = some d → ∃ v, vs[j]? = some v ∧ Rp K G α n v d
  | _, _, 0, v, .cons h r, e => by cases e; exact ⟨_, rfl, h⟩
  | _, _, j + 1, v, .cons h r, e => by
    obtain ⟨d, e1, e2⟩ := rpl_at' (j := j) r (by simpa using e)
    exact ⟨d, by simpa using e1, e2⟩
theorem jm_idx : JM K ct H0 (rIndex K) fIdx := fun W S s σ H Hs x a vs ds Q rel i r p => by
  unfold fIdx at p
  split at p
  · rename_i d
    split at p
    · rename_i l e
      split at p
      · rename_i hall
        split at p
        · rename_i j ej
          obtain ⟨q, us, rfl, k1, k2⟩ := viewL_ok rel i e
          cases r with
          | cons r1 r2 =>
            cases r2
            rename_i y
            have hf : ∀ (m : Nat) (v : V), us[m]? = some v → ∃ (z : D) (b : Bool), l[m]? = some z ∧ sameK z d = some b ∧ flatV v = true ∧ eqV v y = b := by
              intro m v hv
              obtain ⟨z, e1, e2⟩ := rpl_at k2 hv
              have := List.all_eq_true.mp hall z (List.mem_of_getElem? e1)
              obtain ⟨b, hb⟩ := Option.isSome_iff_exists.mp this
              obtain ⟨g1, g2, g3⟩ := sameK_rp e2 r1 hb
              exact ⟨z, b, e1, hb, g1, g3⟩
            obtain ⟨hj, hj1, hj2⟩ := List.findIdx?_eq_some_iff_getElem.mp ej
            have ez : l[j]? = some l[j] := List.getElem?_eq_getElem hj
            obtain ⟨v, ev, rv⟩ := rpl_at' k2 ez
            have hs : sameK l[j] d = some true := by simpa using hj1
            refine ⟨q, us, y, j, v, rfl, rfl, k1, sameK_flat r1 hs, ?_, ev, (sameK_rp rv r1 hs).2.2, ?_, p.val rel (.int _)⟩
            · refine List.all_eq_true.mpr fun v hv => ?_
              obtain ⟨m, hm, rfl⟩ := List.getElem_of_mem hv
              obtain ⟨_, _, _, _, g, _⟩ := hf m _ (List.getElem?_eq_getElem hm)
              exact g
            · intro m z' hm hz'
              obtain ⟨z, b, e1, e2, _, e3⟩ := hf m z' hz'
              rw [e3]
              have := hj2 m hm
              have e4 : l[m] = z := by
                rw [List.getElem?_eq_getElem (by omega)] at e1; exact Option.some.inj e1
              rw [e4, e2] at this
              cases b
              · rfl
              · simp at this
        · exact False.elim p
      · exact False.elim p
    · exact False.elim p
  · exact False.elim p
theorem idxK_ok {X : Cx} {K : PySem.W.Frag} (hK : X.K = K) : MtR X "list.index" (rIndex K) := by subst hK; exact mt_index
/-- l.pop() -/
def fPopL (s : Stt) (a : AI) (ds : List D) : Ro AI := match ds, getC s a with
  | [], some (.lst l) => match l[l.length - 1]? with
    | some d => .ok (.val d) (setC s a (.lst l.dropLast))
    | none => .no
  | _, _ => .no
theorem rpl_dropLast {G : Hp} {α : Nat → Addr} {n : Nat} {vs : List V} {l : List D} (h : RpL K G α n vs l) : RpL K G α n vs.dropLast l.dropLast := by
  rw [List.dropLast_eq_take, List.dropLast_eq_take, h.length]; exact h.take _
theorem jm_popL : JM K ct H0 rPop fPopL := fun W S s σ H Hs x a vs ds Q rel i r p => by
  unfold fPopL at p
  split at p
  · rename_i l e
    split at p
    · rename_i d ed
      obtain ⟨q, rfl, ⟨us, h1, h2⟩, h3⟩ := mut_ok rel i e
      cases r
      obtain ⟨v, ev, rv⟩ := rpl_at' h2 ed
      obtain ⟨r1, r2⟩ := h3 (.lst us.dropLast) (.lst l.dropLast) (fun _ => rfl) ⟨_, upd_same, rpl_dropLast h2⟩
      refine ⟨q, us, v, rfl, rfl, h1, by rw [h2.length]; exact ev, p S v _ r2 r1 ?_⟩
      show Rp K S.G S.α (setC s a (.lst l.dropLast)).M.length v d
      rw [setC_len]; exact rv
    · exact False.elim p
  · exact False.elim p
/-! ## list(range(n)) -/
def mLR1 (m : Mo AI) : Mo AI := fun s => (m s).bind fun a s1 => match a with
  | .val (.int n) => if 0 ≤ n ∧ n ≤ sizeLine then .ok (.new (.lst (rng 0 n.toNat))) s1 else .no
  | _ => .no
theorem rpl_rng {G : Hp} {α : Nat → Addr} {n : Nat} (lo : Int) : ∀ m : Nat, RpL K G α n ((List.range m).map fun i => V.int (lo + (i : Nat))) (rng lo m)
  | 0 => .nil
  | m + 1 => by
    unfold rng
    rw [List.range_succ, List.map_append, List.map_append]
    exact (rpl_rng lo m).append (.cons (.int _) .nil)
theorem ei_lr1 {t : TE} {m : Mo AI} (h : Ei K ct H0 W t m) : Ei K ct H0 W (tLstRg (tRg1 t)) (mLR1 m) := fun S s σ H Q rel p =>
  h S s σ H _ rel (Pst.bind bI p fun S1 s1 H1 x a st1 rel1 i1 p1 => by
    split at p1
    · rename_i n
      cases rp_int i1
      split at p1
      · rename_i hz
        have := sizeLine_eq
        refine ⟨n, rfl, ⟨by omega, by omega, by omega, by omega, by omega⟩, fun q hq => p1.newL rel1 hq ?_⟩
        unfold rgV
        rw [Int.sub_zero]
        exact rpl_rng 0 n.toNat
      · exact False.elim p1
    · exact False.elim p1)
/-! ## borrowed calls that tell a new list of plain values -/
def mCallC (f : Mf) (m : Mo (List AI)) : Mo AI := fun s => (m s).bind fun as s1 => match snap s1 as with
  | some ds => if D.noIdL ds = true then (match f ds [] with
    | .ok (.new (.lst l)) _ => if l.all D.scal = true then .ok (.new (.lst l)) s1 else .no
    | _ => .no) else .no
  | none => .no
theorem RpL.scal {G G' : Hp} {α α' : Nat → Addr} {n n' : Nat} : ∀ {vs : List V} {l : List D}, RpL K G α n vs l → l.all D.scal = true → RpL K G' α' n' vs l
  | _, _, .nil, _ => .nil
  | _, _, .cons (d := d) (l := l) h r, e => by
    rw [List.all_cons, Bool.and_eq_true] at e
    exact .cons (Rp.scal h e.1) (RpL.scal r e.2)
theorem ei_callC {f : Mf} {E : XK} {t : TA} {m : Mo (List AI)} (h : EaL K ct H0 W t m) : Ei K ct H0 W (tCallZ (spM K ct f) E t) (mCallC f m) := fun S s σ H Q rel p =>
  h S s σ H _ rel (Pst.bind bI p fun S1 s1 H1 vs as st1 rel1 i1 p1 => by
    split at p1
    · rename_i ds e
      split at p1
      · rename_i hn
        refine ⟨⟨U ct.lk H1, S1.α, fun _ => none⟩, [], ds, ⟨fun _ _ e => e, (fun a l e => nomatch e), fun _ e => e, rfl, (fun i e q => by simp at q), (fun k c q => by simp at q)⟩, (snap_ok rel1 i1 e).noId hn, ?_⟩
        split at p1
        · rename_i l M' ef
          rw [ef]
          split at p1
          · rename_i hs
            intro S' v H' st rel' it
            have k : ∀ a o, H1 a = some o → H' a = some o := fun a o e => (st.fr a o e rfl).1
            obtain ⟨q, rfl, h1, h2, h3, h4, us, h5, h6⟩ := it
            have hl : S1.lab q = none := by
              cases z : S1.lab q with
              | none => rfl
              | some lb => obtain ⟨_, o, ho⟩ := rel1.lg q lb z; rw [h1] at ho; cases ho
            exact p1 S1 _ H' ⟨fun _ _ e => e, Nat.le_refl _, fun _ _ => rfl, fun a o e l => ⟨k a o e, l⟩, fun _ _ e => .inl e, st.dom⟩ (rel1.grow k) ⟨q, rfl, h1, hl, rel1.gN h1, rfl, us, h5, RpL.scal h6 hs⟩
          · exact False.elim p1
        · exact False.elim p1
      · exact False.elim p1
    · exact False.elim p1)
/-! ## steps -/
variable {X : Exn → Stt → Prop} {QA : AI → Stt → Prop}
theorem w_clr {a : AI} {l : List D} (e : getC s a = some (.lst l)) (h : QA (.val .non) (setC s a (.lst []))) : Wo QA X (fClr s a []) := by
  unfold fClr; rw [e]; exact h
theorem w_popL {a : AI} {l : List D} {d : D} (e : getC s a = some (.lst l)) (e2 : l[l.length - 1]? = some d) (h : QA (.val d) (setC s a (.lst l.dropLast))) : Wo QA X (fPopL s a []) := by
  unfold fPopL; rw [e]; simp only []; rw [e2]; exact h
theorem w_idx {a : AI} {l : List D} {d : D} {j : Nat} (e : viewL s a = some l) (c : l.all (fun z => (sameK z d).isSome) = true) (e2 : l.findIdx? (fun z => sameK z d == some true) = some j) (h : QA (.val (.int (j : Nat))) s) : Wo QA X (fIdx s a [d]) := by
  unfold fIdx; simp only []; rw [e]; simp only []; rw [if_pos c, e2]; exact h
theorem w_idxI {a : AI} {ns : List Int} {i : Int} {j : Nat} (e : viewL s a = some (ns.map D.int)) (e1 : ns[j]? = some i) (e2 : ∀ m, m < j → ns[m]? ≠ some i) (h : QA (.val (.int (j : Nat))) s) : Wo QA X (fIdx s a [.int i]) := by
  refine w_idx e ?_ (j := j) ?_ h
  · refine List.all_eq_true.mpr fun z hz => ?_
    obtain ⟨n, _, rfl⟩ := List.mem_map.mp hz
    rfl
  · have hj := (List.getElem?_eq_some_iff.mp e1).1
    refine List.findIdx?_eq_some_iff_getElem.mpr ⟨by rw [List.length_map]; exact hj, ?_, fun m hm => ?_⟩
    · rw [List.getElem_map]
      have := (List.getElem?_eq_some_iff.mp e1).2
      rw [this]; simp [sameK]
    · rw [List.getElem_map]
      have := e2 m hm
      rw [List.getElem?_eq_getElem (by omega)] at this
      simp only [sameK]
      simp only [ne_eq, Option.some.injEq] at this
      simp [this]
theorem w_callC {f : Mf} {m : Mo (List AI)} (h : Wo (fun as s1 => ∃ ds l M', snap s1 as = some ds ∧ D.noIdL ds = true ∧ f ds [] = .ok (.new (.lst l)) M' ∧ l.all D.scal = true ∧ QA (.new (.lst l)) s1) X (m s)) : Wo QA X (mCallC f m s) := w_bind (w_mono h fun as s1 ⟨ds, d, M', e1, e2, e3, e4, h⟩ => by
  show Wo QA X (match snap s1 as with | some ds => _ | none => _)
  rw [e1]; show Wo QA X (if _ then _ else _); rw [if_pos e2, e3]; show Wo QA X (if _ then _ else _); rw [if_pos e4]; exact h)
theorem scal_ints (ns : List Int) : (ns.map D.int).all D.scal = true := by
  refine List.all_eq_true.mpr fun z hz => ?_
  obtain ⟨n, _, rfl⟩ := List.mem_map.mp hz
  rfl
theorem w_lr1 {m : Mo AI} (h : Wo (fun a s1 => ∃ n : Int, a = .val (.int n) ∧ 0 ≤ n ∧ n ≤ sizeLine ∧ QA (.new (.lst (rng 0 n.toNat))) s1) X (m s)) : Wo QA X (mLR1 m s) := w_bind (w_mono h fun a s1 ⟨n, e, c1, c2, h⟩ => by
  subst e; simp only []; rw [if_pos ⟨c1, c2⟩]; exact h)
theorem w_lr1I {n : Int} {s : Stt} (c1 : 0 ≤ n) (c2 : n ≤ sizeLine) (h : QA (.new (.lst (rng 0 n.toNat))) s) : ∃ m : Int, (AI.val (.int n)) = .val (.int m) ∧ 0 ≤ m ∧ m ≤ sizeLine ∧ QA (.new (.lst (rng 0 m.toNat))) s := ⟨n, rfl, c1, c2, h⟩
end
end Y

namespace Y
open PySem L2 Z
section
variable {K : PySem.W.Frag} {ct : Ct} {H0 : Hp} {W : WX} {S : Sh} {s : Stt} {σ : St} {H : Hp}
/-! ## a new thing is tracked: it has a number from now on -/
def Sh.tr (S : Sh) (n : Nat) (p : Addr) : Sh := ⟨S.G, fun k => if k = n then p else S.α k, fun a => if a = p then some (.id n) else S.lab a⟩
theorem Rel.track {p : Addr} {c : Cn} (r : Rel K ct H0 S s σ H) (hl : S.lab p = none) (hg : S.G p = none) (h : CnOk K ct S s.M.length H p c) : Rel K ct H0 (S.tr s.M.length p) ⟨s.env, s.M ++ [c]⟩ σ H := by
  have hlen : (s.M ++ [c]).length = s.M.length + 1 := by simp
  have al : ∀ k, k < s.M.length → (S.tr s.M.length p).α k = S.α k := fun k hk => if_neg (by omega)
  have lb : ∀ {a : Addr} {l : Lab}, S.lab a = some l → (S.tr s.M.length p).lab a = some l := fun {a l} hh => by
    show (if a = p then _ else S.lab a) = _
    rw [if_neg (fun z => by subst z; rw [hl] at hh; cases hh)]; exact hh
  have cn : ∀ {a : Addr} {c' : Cn}, CnOk K ct S s.M.length H a c' → CnOk K ct (S.tr s.M.length p) (s.M ++ [c]).length H a c' := fun {a c'} h => CnOk.mono (S := S) (n := s.M.length) (fun _ _ e => e) al (by rw [hlen]; omega) (fun _ e => e) h
  refine ⟨r.sub, fun a l q => ?_, r.dom, r.len, fun j en q => ?_, fun k c' q => ?_⟩
  · have q1 : (if a = p then some (Lab.id s.M.length) else S.lab a) = some l := q
    by_cases z : a = p
    · subst z; exact ⟨hg, h.some⟩
    · rw [if_neg z] at q1; exact r.lg a l q1
  · have hh := r.slot j en q
    cases en with
    | fz d => obtain ⟨v, k1, k2⟩ := hh; exact ⟨v, k1, k2.mono (fun _ _ e => e) al (by show _ ≤ (s.M ++ [c]).length; rw [hlen]; omega)⟩
    | xn x => exact xn_mono (S := S) (n := s.M.length) (H := H) (fun _ _ e => e) al (by show _ ≤ (s.M ++ [c]).length; rw [hlen]; omega) rfl hh
    | ow c2 =>
      obtain ⟨a, k1, k2, k3, k4, k5⟩ := hh
      exact ⟨a, k1, k2, lb k3, k4, cn k5⟩
  · have q1 : (s.M ++ [c])[k]? = some c' := q
    by_cases z : k < s.M.length
    · rw [List.getElem?_append_left z] at q1
      obtain ⟨k1, k2⟩ := r.ids k c' q1
      rw [al k z]
      exact ⟨lb k1, cn k2⟩
    · have hk : k = s.M.length := by
        have := (List.getElem?_eq_some_iff.mp q1).1
        rw [hlen] at this; omega
      subst hk
      rw [List.getElem?_append_right (Nat.le_refl _), Nat.sub_self] at q1
      cases q1
      have e : (S.tr s.M.length p).α s.M.length = p := if_pos rfl
      rw [e]
      exact ⟨if_pos rfl, cn h⟩
theorem Stp.track {S' : Sh} {n n' : Nat} {H' : Hp} {p : Addr} (t : Stp S n H S' n' H') (hp : H p = none) : Stp S n H (S'.tr n' p) (n' + 1) H' where
  g := t.g
  le := Nat.le_succ_of_le t.le
  al := fun k hk => by
    show (if k = n' then p else S'.α k) = _
    rw [if_neg (by have := t.le; omega)]; exact t.al k hk
  fr := fun a o h l => by
    obtain ⟨h1, h2⟩ := t.fr a o h l
    refine ⟨h1, ?_⟩
    show (if a = p then _ else S'.lab a) = none
    rw [if_neg (ne_of_none h hp)]; exact h2
  gn := t.gn
  dom := t.dom
theorem tr_cid {n : Nat} {p : Addr} : Rp K (S.tr n p).G (S.tr n p).α (n + 1) (.ref p) (.cid n) := by
  have h : Rp K (S.tr n p).G (S.tr n p).α (n + 1) (.ref ((S.tr n p).α n)) (.cid n) := .cid (Nat.lt_succ_self n)
  have e : (S.tr n p).α n = p := if_pos rfl
  rw [e] at h; exact h
/-- x = e, and the new thing is tracked -/
def mAsgK (i : Nat) (m : Mo AI) : Ms := fun s => (m s).toS fun a s1 => match a with
  | .new c => .nx ⟨s1.env.set i (some (.fz (.cid s1.M.length))), s1.M ++ [c]⟩
  | _ => .no
theorem sv_asgK {i : Nat} {te : TE} {m : Mo AI} (h : Ei K ct H0 W te m) : Sv K ct H0 W (tAsg te (gName i)) (mAsgK i m) := fun S s σ H Dn rel p =>
  h S s σ H _ rel (PstS.bind p fun S1 s1 H1 x a st1 rel1 i1 p1 => by
    show Dn.nx (σ.set i (some x)) H1
    split at p1
    · rename_i c
      obtain ⟨q, rfl, h1, h2, h3, h4, h5⟩ := i1
      have rt := rel1.track h2 h3 h5
      have hlen : (s1.M ++ [c]).length = s1.M.length + 1 := by simp
      refine p1 ((S1.tr s1.M.length q).un i) _ H1 ?_ (rt.setFz (by show Rp _ _ _ (s1.M ++ [c]).length _ _; rw [hlen]; exact tr_cid))
      show Stp S s.M.length H _ (s1.M ++ [c]).length H1
      rw [hlen]
      exact (st1.track h1).trans .un
    · exact False.elim p1)
/-! ## join -/
def strsD : List D → Option (List Str)
  | [] => some []
  | .str i :: l => (strsD l).map (i :: ·)
  | _ :: _ => none
theorem strs_rp {G : Hp} {α : Nat → Addr} {n : Nat} : ∀ {l : List D} {vs : List V} {ns : List Str}, RpL K G α n vs l → strsD l = some ns → vs = ns.map V.str
  | [], _, _, .nil, e => by cases e; rfl
  | .str i :: l, _, ns, .cons h r, e => by
    obtain ⟨ms, q, rfl⟩ := Option.map_eq_some_iff.mp (show (strsD l).map (i :: ·) = some ns from e)
    rw [rp_str h, strs_rp r q]; rfl
  | .non :: _, _, _, _, e => by cases e
  | .bl _ :: _, _, _, _, e => by cases e
  | .int _ :: _, _, _, _, e => by cases e
  | .tup _ :: _, _, _, _, e => by cases e
  | .ctp _ :: _, _, _, _, e => by cases e
  | .lst _ :: _, _, _, _, e => by cases e
  | .clst _ :: _, _, _, _, e => by cases e
  | .dK _ :: _, _, _, _, e => by cases e
  | .dT _ :: _, _, _, _, e => by cases e
  | .cid _ :: _, _, _, _, e => by cases e
  | .ty _ :: _, _, _, _, e => by cases e
theorem strsD_map (ns : List Str) : strsD (ns.map D.str) = some ns := by
  induction ns with
  | nil => rfl
  | cons n ns ih => show (strsD (ns.map D.str)).map (n :: ·) = _; rw [ih]; rfl
/-! ## sep.join(list of texts) -/
def mJoin (mo ma : Mo AI) : Mo AI := fun s => (mo s).bind fun a s1 => match a with
  | .val (.str x) => (ma s1).bind fun b s2 => match (viewL s2 b).bind strsD with
    | some ys => if (ys.map (·.length)).sum + ys.length * x.length ≤ 16777216 then .ok (.val (.str (Txt.join x ys))) s2 else .no
    | none => .no
  | _ => .no
def rJoinY (K : PySem.W.Frag) : V → List V → Hp → VK → Prop := fun x xs H Q => ∃ a p, ∃ ys : List Str, x = .str a ∧ xs = [.ref p] ∧ (SqL K H p (ys.map V.str) ∨ SqT K H p (ys.map V.str)) ∧
    (ys.map (·.length)).sum + ys.length * a.length ≤ 16777216 ∧ Q (.str (Txt.join a ys)) H
theorem ei_join {to te : TE} {mo ma : Mo AI} (ho : Ei K ct H0 W to mo) (ha : Ei K ct H0 W te ma) : Ei K ct H0 W (tM1 (rJoinY K) to te) (mJoin mo ma) := fun S s σ H Q rel p =>
  ho S s σ H _ rel (Pst.bind bI p fun S1 s1 H1 x a st1 rel1 i1 p1 => by
    split at p1
    · rename_i z
      cases rp_str i1
      refine ⟨⟨z, rfl⟩, ha S1 s1 σ H1 _ rel1 (Pst.bind bI p1 fun S2 s2 H2 y b st2 rel2 i2 p2 => ?_)⟩
      split at p2
      · rename_i ys e
        split at p2
        · rename_i hz
          obtain ⟨l, e1, e2⟩ := Option.bind_eq_some_iff.mp e
          obtain ⟨q, us, rfl, k1, k2⟩ := viewL_ok rel2 i2 e1
          rw [strs_rp k2 e2] at k1
          exact ⟨z, q, ys, rfl, rfl, .inl k1, hz, p2.val rel2 (.str _)⟩
        · exact False.elim p2
      · exact False.elim p2
    · exact False.elim p1)
theorem pe_joinY {X : Cx} {K : PySem.W.Frag} {o e : Expr} {to te : TE} {apos pos : Pos} (hK : X.K = K) (ho : PE X o to) (he : PE X e te) (hs : starEach [e] X.env = [(false, eval e X.env)] := by rfl) (hbase : attributeBase o "join" X.env (eval o X.env) = eval o X.env := by rfl) (hline : (apos.endLine == pos.line) = true := by rfl) :
    PE X (.Call (.Attribute o "join" apos) [e] [] pos) (tM1 (rJoinY K) to te) := by subst hK; exact pe_join ho he hs hbase hline
/-! ## text * number -/
def rMulS : R2 := fun x y H Q => ∃ a n, x = .str a ∧ y = .int n ∧ a.length ≤ 16 ∧ 0 ≤ n ∧ n ≤ 1048576 ∧ Q (.str (Txt.mul a n)) H
theorem op_mulS {X : Cx} : OpR X (binaryOp .Mult) rMulS := by
  intro pins s σ H x y v u Q I rx ry h
  obtain ⟨a, n, rfl, rfl, h1, h2, h3, q⟩ := h
  obtain ⟨t, rfl⟩ := rx
  obtain ⟨t', rfl⟩ := ry
  exact PySem.W.KXi.mul (n := a.length) rfl h1 (by omega) (by omega) fun t'' k _ _ => ⟨.str _, H, I.tok k, ⟨t'', rfl⟩, q⟩
def fMulS : Stt → AI → AI → Ro AI := fun s a b => match a, b with
  | .val (.str x), .val (.int n) => if x.length ≤ 16 ∧ 0 ≤ n ∧ n ≤ 1048576 then .ok (.val (.str (Txt.mul x n))) s else .no
  | _, _ => .no
theorem j_mulS : J2 K ct H0 rMulS fMulS := fun W S s σ H Hs Hs' x y a b Q rel ia ib p => by
  unfold fMulS at p
  split at p
  · rename_i z n
    cases rp_str ia
    cases rp_int ib
    split at p
    · rename_i hz
      exact ⟨z, n, rfl, rfl, hz.1, hz.2.1, hz.2.2, p.val rel (.str _)⟩
    · exact False.elim p
  · exact False.elim p
/-! ## steps -/
variable {X : Exn → Stt → Prop} {QA : AI → Stt → Prop} {N : Stt → Prop} {O : Rs → Prop}
theorem w_asgK {i : Nat} {m : Mo AI} (h : Wo (fun a s1 => ∃ c, a = .new c ∧ N ⟨s1.env.set i (some (.fz (.cid s1.M.length))), s1.M ++ [c]⟩) (fun x s => O (.er x s)) (m s)) : Ws N O (mAsgK i m s) := w_toS (w_mono h fun a s1 ⟨c, e, h⟩ => by subst e; exact h)
theorem w_sjoin {mo ma : Mo AI} (h : Wo (fun a s1 => ∃ x, a = .val (.str x) ∧ Wo (fun b s2 => ∃ ys, (viewL s2 b).bind strsD = some ys ∧ (ys.map (·.length)).sum + ys.length * x.length ≤ 16777216 ∧ QA (.val (.str (Txt.join x ys))) s2) X (ma s1)) X (mo s)) : Wo QA X (mJoin mo ma s) := w_bind (w_mono h fun a s1 ⟨x, e, h⟩ => by
  subst e; exact w_bind (w_mono h fun b s2 ⟨ys, e1, c, h⟩ => by
    show Wo QA X (match (viewL s2 b).bind strsD with | some ys => _ | none => _)
    rw [e1]; show Wo QA X (if _ then _ else _); rw [if_pos c]; exact h))
theorem w_mulS {x : Str} {n : Int} (c : x.length ≤ 16 ∧ 0 ≤ n ∧ n ≤ 1048576) (h : QA (.val (.str (Txt.mul x n))) s) : Wo QA X (fMulS s (.val (.str x)) (.val (.int n))) := by
  unfold fMulS; simp only []; rw [if_pos c]; exact h
end
end Y

namespace Y
open PySem L2 Z
/-! ## texts as lists of code points -/
def tx (l : List Nat) : Str := ⟨l.toArray⟩
theorem tx_inj {a b : List Nat} (h : tx a = tx b) : a = b := congrArg (fun x : Str => x.cps.toList) h
theorem tx_len (l : List Nat) : (tx l).length = l.length := by simp [tx, Str.length]
theorem tx_cat (a b : List Nat) : tx a ++ tx b = tx (a ++ b) := by
  show (⟨a.toArray ++ b.toArray⟩ : Str) = ⟨(a ++ b).toArray⟩
  simp
theorem tx_cut (l : List Nat) (lo hi : Option Int) : cutS (tx l) lo hi = tx (cutL l lo hi) := by
  unfold cutS cutL
  rw [tx_len]; rfl
theorem tx_in (a : List Nat) (c : Nat) : (!(Builtin.Str.occurrences (tx a) (tx [c]) 0 (tx a).length 1).isEmpty) = decide (c ∈ a) := StrLaws.found_one (tx a) c
theorem tx_strL (l : List Nat) : strL (tx l) = l.map fun c => .str (tx [c]) := rfl
theorem tx_eq {a b : List Nat} : (tx a = tx b) ↔ a = b := ⟨tx_inj, fun h => by rw [h]⟩
theorem tx_decide {a b : List Nat} : decide (tx a = tx b) = decide (a = b) := by
  by_cases h : a = b
  · rw [decide_eq_true h, decide_eq_true (tx_eq.mpr h)]
  · rw [decide_eq_false h, decide_eq_false (fun q => h (tx_inj q))]
theorem joinL_nil : ∀ ys : List (List Nat), TL.joinL [] ys = ys.flatten
  | [] => rfl
  | [p] => by simp [TL.joinL]
  | p :: q :: r => by
    show p ++ ([] ++ TL.joinL [] (q :: r)) = _
    rw [joinL_nil (q :: r)]; rfl
theorem tx_join0 (ys : List (List Nat)) : Txt.join (tx []) (ys.map tx) = tx ys.flatten := by
  rw [← joinL_nil]
  exact SX.join_S [] ys
section
variable {s : Stt} {X : Exn → Stt → Prop} {QA : AI → Stt → Prop}
theorem w_ixS {cs : List Nat} {i : Int} {c : Nat} (z : cs.length ≤ sizeLine) (e : atI cs i = some c) (h : QA (.val (.str (tx [c]))) s) : Wo QA X (fIxY s (.val (.str (tx cs))) (.val (.int i))) := by
  unfold fIxY
  show Wo QA X (fIx s (.val (.str (tx cs))) (.val (.int i)))
  unfold fIx
  show Wo QA X (if (tx cs).length ≤ sizeLine then (match atI (tx cs).cps.toList i with | some c => _ | none => _) else _)
  rw [tx_len, if_pos z]
  show Wo QA X (match atI cs i with | some c => _ | none => _)
  rw [e]; exact h
theorem w_inS {a : List Nat} {c : Nat} (h : QA (.val (.bl (decide (c ∈ a)))) s) : Wo QA X (fIn s (.val (.str (tx [c]))) (.val (.str (tx a)))) := by
  unfold fIn
  rw [show inOf s (.val (.str (tx [c]))) (.val (.str (tx a))) = some (decide (c ∈ a)) from congrArg some (tx_in a c)]; exact h
theorem w_addT {a b : List Nat} (c : a.length + b.length ≤ sizeLine) (h : QA (.val (.str (tx (a ++ b)))) s) : Wo QA X (fAdd s (.val (.str (tx a))) (.val (.str (tx b)))) :=
  w_addS (by rw [tx_len, tx_len]; exact c) (by rw [tx_cat]; exact h)
theorem w_slT {a : List Nat} {lo hi : Option Int} (c : a.length ≤ sizeLine) (h : QA (.val (.str (tx (cutL a lo hi)))) s) : Wo QA X (fSl s (.val (.str (tx a))) lo hi) :=
  w_slS (by rw [tx_len]; exact c) (by rw [tx_cut]; exact h)
theorem w_lenT {a : List Nat} (c : a.length ≤ sizeLine) (h : QA (.val (.int (a.length : Nat))) s) : Wo QA X (fLen s [.val (.str (tx a))]) := by
  refine w_len (d := .str (tx a)) (n := a.length) rfl ?_ h
  show (if (tx a).length ≤ sizeLine then some (tx a).length else none) = _
  rw [tx_len, if_pos c]
end
end Y

namespace Y
open PySem L2 Z
open PySem.W (AllAlike Sortable dataLe EachIs)
/-! ## sorted(list of data) -/
def pyD (d : D) : PyData := d.py.getD .none
def rSortY (K : PySem.W.Frag) : List V → Hp → VK → Prop := fun xs H Q => ∃ (q : Addr) (ts : List (V × D)), xs = [.ref q] ∧ SqL K H q (ts.map Prod.fst) ∧ (∀ t ∈ ts, Dp K H t.1 (pyD t.2)) ∧ AllAlike (ts.map fun t => pyD t.2) ∧ Sortable (ts.map fun t => pyD t.2) ∧ (∀ t ∈ ts, (pyD t.2).depth ≤ 40) ∧
  ∀ p, H p = none → Q (.ref p) (upd H p (.lst ((ts.mergeSort (dataLe false fun t => pyD t.2)).map Prod.fst)))
section
variable {X : Cx}
theorem each_vals : ∀ {ts : List (V × D)} {us : List Value}, Vals (ts.map Prod.fst) us → EachIs (fun u (t : V × D) => RelV t.1 u) us ts
  | [], _, .nil => .nil
  | _ :: _, _, .cons h r => .cons h (each_vals r)
theorem vals_each : ∀ {ts : List (V × D)} {us : List Value}, EachIs (fun u (t : V × D) => RelV t.1 u) us ts → Vals (ts.map Prod.fst) us
  | [], _, .nil => .nil
  | _ :: _, _, .cons h r => .cons h (vals_each r)
theorem each_reads {pins : List (Addr × Obj)} {σ : St} {H : Hp} {s : Shared} (I : Inv X pins σ H s) : ∀ {ts : List (V × D)} {us : List Value}, Vals (ts.map Prod.fst) us → (∀ t ∈ ts, Dp X.K H t.1 (pyD t.2)) → EachIs (fun u (t : V × D) => ∃ as, PySem.Reads s.heap u (pyD t.2) as) us ts
  | [], _, .nil, _ => .nil
  | t :: ts, _, .cons h r, hd => .cons (Dp.reads I (pyD t.2) t.1 _ (hd t (List.mem_cons_self ..)) h) (each_reads I r fun t' h' => hd t' (List.mem_cons_of_mem _ h'))
theorem cr_sortY' (hu : X.A.units + 70 < cLine) : CallR X (.builtin "sorted") (rSortY X.K) := by
  intro pins s σ H vs us Q I r h
  obtain ⟨a, ts, rfl, hs, hd, hal, hk, hdp, q⟩ := h
  obtain ⟨its, rv, hl, hz⟩ := I.list hs
  rw [Vals.ref1 r]
  rw [List.length_map] at hz
  refine PySem.W.sorted_data (enc := fun t : V × D => pyD t.2) hl.isList (each_vals rv) (each_reads I rv hd) hal hk hz (fun b hb => by have := hdp b hb; omega) fun out ho eo => ?_
  obtain ⟨ep, he'⟩ := PyProof.Rows.sortedAll_at s.heap its out.toArray
  have rv' := vals_each eo
  refine ⟨.ref _, upd H (s.heap.objs.size + 1) (.lst ((ts.mergeSort (dataLe false fun t => pyD t.2)).map Prod.fst)), I.laid (t' := s.toks) (fun _ _ => PyProof.Rows.sortedAll_old) (Nat.le_succ _) ⟨by rw [List.length_map, List.length_mergeSort]; exact hz, out, ep, rv', he'⟩, rfl, q _ (I.hok.fresh (Nat.le_succ _))⟩
theorem cr_sortY {K : PySem.W.Frag} (hK : X.K = K) (hu : X.A.units + 70 < cLine) : CallR X (.builtin "sorted") (rSortY K) := by subst hK; exact cr_sortY' hu
end
section
variable {K : PySem.W.Frag} {ct : Ct} {H0 : Hp} {W : WX}
def SortOk (l : List D) : Prop := (∀ d ∈ l, d.py.isSome = true) ∧ AllAlike (l.map pyD) ∧ Sortable (l.map pyD) ∧ (∀ d ∈ l, (pyD d).depth ≤ 40)
open Classical in
noncomputable def fSort (s : Stt) (as : List AI) : Ro AI := match as with
  | [a] => match viewL s a with
    | some l => if SortOk l then .ok (.new (.lst (l.mergeSort (dataLe false pyD)))) s else .no
    | none => .no
  | _ => .no
theorem RpL.zips {G : Hp} {α : Nat → Addr} {n : Nat} : ∀ {vs : List V} {l : List D}, RpL K G α n vs l → ∃ ts : List (V × D), ts.map Prod.fst = vs ∧ ts.map Prod.snd = l ∧ ∀ t ∈ ts, Rp K G α n t.1 t.2
  | _, _, .nil => ⟨[], rfl, rfl, fun t h => by simp at h⟩
  | _, _, .cons (v := v) (d := d) h r => by
    obtain ⟨ts, e1, e2, e3⟩ := RpL.zips r
    refine ⟨(v, d) :: ts, by rw [List.map_cons, e1], by rw [List.map_cons, e2], fun t ht => ?_⟩
    rcases List.mem_cons.mp ht with rfl | ht
    · exact h
    · exact e3 t ht
theorem RpL.unzip {G : Hp} {α : Nat → Addr} {n : Nat} : ∀ {ts : List (V × D)}, (∀ t ∈ ts, Rp K G α n t.1 t.2) → RpL K G α n (ts.map Prod.fst) (ts.map Prod.snd)
  | [], _ => .nil
  | t :: ts, h => .cons (h t (List.mem_cons_self ..)) (RpL.unzip fun t' h' => h t' (List.mem_cons_of_mem _ h'))
theorem jb_sort : JB K ct H0 (rSortY K) fSort := fun W S s σ H Hs vs as Q rel ia p => by
  unfold fSort at p
  split at p
  · rename_i a
    obtain ⟨v, rfl, i⟩ := as1 ia
    split at p
    · rename_i l e
      split at p
      · rename_i hok
        obtain ⟨h1, h2, h3, h4⟩ := hok
        obtain ⟨q, us, rfl, k1, k2⟩ := viewL_ok rel i e
        obtain ⟨ts, e1, e2, e3⟩ := RpL.zips k2
        have em : ts.map (fun t => pyD t.2) = l.map pyD := by rw [← e2, List.map_map]; rfl
        have hm : ∀ t ∈ ts, t.2 ∈ l := fun t ht => by rw [← e2]; exact List.mem_map_of_mem ht
        refine ⟨q, ts, rfl, by rw [e1]; exact k1, fun t ht => ?_, by rw [em]; exact h2, by rw [em]; exact h3, fun t ht => h4 _ (hm t ht), fun r hr => ?_⟩
        · obtain ⟨x, hx⟩ := Option.isSome_iff_exists.mp (h1 _ (hm t ht))
          have := uDp (rp_dp ((e3 t ht).mono rel.sub (fun _ _ => rfl) (Nat.le_refl _)) hx)
          unfold pyD; rw [hx]
          exact this
        · refine p.newL rel hr ?_
          have es : l.mergeSort (dataLe false pyD) = (ts.mergeSort (dataLe false fun t => pyD t.2)).map Prod.snd := by
            rw [← e2]
            refine (List.map_mergeSort (fun a _ b _ => ?_)).symm
            rfl
          rw [es]
          exact RpL.unzip fun t ht => e3 t (List.mem_mergeSort.mp ht)
      · exact False.elim p
    · exact False.elim p
  · exact False.elim p
variable {s : Stt} {X : Exn → Stt → Prop} {QA : AI → Stt → Prop}
theorem w_sort {a : AI} {l : List D} (e : viewL s a = some l) (c : SortOk l) (h : QA (.new (.lst (l.mergeSort (dataLe false pyD)))) s) : Wo QA X (fSort s [a]) := by
  unfold fSort; simp only []; rw [e]; simp only []; rw [if_pos c]; exact h
end
end Y

/-! # exceptions -/
namespace L2
open PySem PySem.Spec PyProof.Rows
section
variable {X : Cx} {o e : Expr} {es : List Expr} {to te : TE} {ta : TA} {f : Str} {p p' p1 p2 pos : Pos}
/-- B.__init__(self, ..) of an own class B that has ValueError's -/
theorem pe_clsinit {x : Str} {CS : Addr} {mc : Value} {pl : Sem Bool} (hg : Gl X x) (hm : X.mg x = some (.ref CS)) (r : ClX.CRead X.K CS mc) (hv : PySem.W.findCls X.K (.ref CS) mc "__init__" = some (.val (.builtin "ValueError.__init__"))) (ha : PA X (e :: es) ta)
    (hdb : (x == ("__debug__" : Str)) = false := by decide)
    (hc : eval (.Call (.Attribute (.Name x p1) "__init__" p2) (e :: es) [] pos) X.env = (do
      let ov ← eval (.Name x p1) X.env
      standAt p2.atName
      let (f, first) ← holding [ov] (getMethod ov "__init__" pl)
      callWith pos f first (backTo pos (starEach (e :: es) X.env)) (backToKw pos (keywordEach [] X.env))) := by rfl)
    (he : starEach (e :: es) X.env = (false, eval e X.env) :: starEach es X.env := by rfl) (hpl : (backTo pos (starEach es X.env)).any (·.1) = false := by rfl) :
    PE X (.Call (.Attribute (.Name x p1) "__init__" p2) (e :: es) [] pos) (tVeI X.K ta) := by
  refine ⟨fun pins s σ H Q I h => ?_⟩
  refine PySem.W.methodCall_KW (ld_glob I hg hm ?_ hdb) hc
  refine PySem.W.method_cls I.kIn r.ga (PySem.W.cls_value I.kIn r.rd hv rfl ?_)
  show wpAny _ _ (callWith pos (Value.builtin "ValueError.__init__") [] (backTo pos (starEach (e :: es) X.env)) []) _ _ _
  refine PyProof.Rows.callWith_method1 (thn (ha.run pos pins _ σ H _ (I.tok _) h) fun us s1 ⟨vs, H1, I1, r1, a, C, ws, ev, hl, T, ea, q⟩ => ?_) he hpl
  subst ev
  cases r1 with
  | @cons _ u0 _ ur ra rw' =>
    obtain rfl : u0 = Value.ref a := ra
    have hlen : ur.length ≤ sizeLine := by
      rw [← Paired.length rw', sizeLine_eq]
      omega
    exact oinit_ok T I1 ea hlen fun s' J => ⟨.non, H1, J, rfl, q⟩
/-- isinstance(e, c), e the exception that the suite holds, of any class that is known -/
def rIsX (K : PySem.W.Frag) (cls : Value) (a : Addr) (dd : Option Addr) : List V → Hp → VK → Prop := fun xs H Q => ∃ (D : Addr) (c : V) (cv : Value) (b : Bool), cls = .ref D ∧ ExcC K D ∧ xs = [.ref a, c] ∧ (∀ u, RelV c u → u = cv) ∧ PySem.W.kitOne K (.ref D) cv = some b ∧ (dd = none ∨ ∃ d fs, dd = some d ∧ H d = some (.xd fs)) ∧ Q (.bl b) H
theorem call_isX' {X : Cx} {a : Addr} {oe : Obj} {cls : Value} {dd : Option Addr} {pn : List (Addr × Obj)} (hz : Zc cls dd oe) (hf : ∃ vs, oe.data = .fields vs) : CallR (X.suite a ((a, oe) :: pn)) (.builtin "isinstance") (rIsX X.K cls a dd) := by
  intro pins s σ H xs us Q I r h
  obtain ⟨D, c, cv, b, rfl, C, rfl, hcv, e, hd, q⟩ := h
  cases r with
  | cons rx rr =>
    cases rr with
    | cons rt rr =>
      cases rr
      cases rx
      have ec := hcv _ rt
      subst ec
      obtain ⟨hget, _⟩ := I.pin (a, oe) (List.mem_append.mpr (.inl List.mem_cons_self))
      obtain ⟨vs, hv⟩ := hf
      have hcl : (PySem.W.clsIn X.K D).isSome = true := by
        obtain ⟨cd, hc, _⟩ := PySem.W.any_some C.hd
        rw [hc]; rfl
      have J : ∃ od, PySem.W.InstAt s.heap a oe D od := by
        rcases hd with rfl | ⟨d, fs, rfl, ed⟩
        · exact ⟨none, hget, hz.1, by unfold PySem.W.notCls; rw [hv] <;> rfl, by rw [hz.2]; trivial⟩
        · have hx : ObjOk X.prog X.w H s.heap d (.xd fs) := I.hok d _ ed
          obtain ⟨mA, hns, hr⟩ := hx
          obtain ⟨od, ho, hl⟩ := lookIn_ns hns
          exact ⟨some od, hget, hz.1, by unfold PySem.W.notCls; rw [hv] <;> rfl, by rw [hz.2]; exact ho⟩
      obtain ⟨od, J⟩ := J
      exact PySem.W.kia_one (PySem.W.kitx_exc hcl C.hg C.hk C.hs C.ha C.hn C.ht C.hm) I.kIn J e (fun z => nomatch z) fun tk => ⟨.bl b, H, I.kept (t' := tk) fun _ _ z => z, rfl, q⟩
theorem call_isX {X : Cx} {K : PySem.W.Frag} (hK : X.K = K) {a : Addr} {oe : Obj} {cls : Value} {dd : Option Addr} {pn : List (Addr × Obj)} (hz : Zc cls dd oe) (hf : ∃ vs, oe.data = .fields vs) : CallR (X.suite a ((a, oe) :: pn)) (.builtin "isinstance") (rIsX K cls a dd) := by subst hK; exact call_isX' hz hf
end
end L2
namespace Y
open PySem L2 Z
/-! ## what the rules below are, with K named -/
section
variable {X : Cx} {K : PySem.W.Frag} {x n : Str} {c : Value} {i : Nat} {body suite : List Stmt} {b₀ : Stmt} {h₀ : ExceptHandler} {hds : List ExceptHandler} {l : List (Value × (Addr → Value → Option Addr → TS))} {np pos pos' : Pos} {tb : WX → TS} {ts : Addr → Value → Option Addr → TS} {Wout : WX}
def tTryA (K : PySem.W.Frag) (c : Value) (i : Nat) (tb : WX → TS) (ts : Addr → Value → Option Addr → TS) (Wout : WX) : TS := fun D σ H => tb (wAs K c i ts Wout D) D σ H
def tTryM (K : PySem.W.Frag) (l : List (Value × (Addr → Value → Option Addr → TS))) (tb : WX → TS) (Wout : WX) : TS := fun D σ H => tb (wMany K Wout D l) D σ H
theorem ps_tryA (hK : X.K = K) (hs : X.stack = X.env :: X.outer) (hf : X.env.frame = some X.env.locals) (hN : X.N.Nodup) (hi : X.N[i]? = some n) (hln : X.env.kindOf n = some .local) (hc : Names X x c) (tk : Takes X Wout)
    (hb : ∀ (W : WX) (pn : List (Addr × Obj)) (xe : Value → Shared → Prop), Takes (X.tr pn xe) W → PassesOwn (model X.prog X.w) X.A X.env xe → PSs (X.tr pn xe) body (tb W))
    (hsu : ∀ (a : Addr) (oe : Obj) (cls : Value) (d : Option Addr) (pn : List (Addr × Obj)), Zc cls d oe → (∃ vs, oe.data = .fields vs) → PSs (X.suite a ((a, oe) :: pn)) (b₀ :: suite) (ts a cls d)) :
    PS X (.Try body [.ExceptHandler (some (.Name x np)) (some n) (b₀ :: suite) pos'] [] [] pos) (tTryA K c i tb ts Wout) := by
  subst hK
  exact ps_try_as hs hf hN hi hln hc tk hb hsu
theorem ps_tryM (hK : X.K = K) (hs : X.stack = X.env :: X.outer) (hf : X.env.frame = some X.env.locals) (tk : Takes X Wout)
    (hb : ∀ (W : WX) (pn : List (Addr × Obj)) (xe : Value → Shared → Prop), Takes (X.tr pn xe) W → PassesOwn (model X.prog X.w) X.A X.env xe → PSs (X.tr pn xe) body (tb W))
    (hh : HdsOk X (h₀ :: hds) l) : PS X (.Try body (h₀ :: hds) [] [] pos) (tTryM K l tb Wout) := by
  subst hK
  exact ps_try_many hs hf tk hb hh
end
section
variable {K : PySem.W.Frag} {ct ct2 : Ct} {H0 : Hp} {W : WX} {S : Sh} {s : Stt} {σ : St} {H : Hp}
/-! ## the suite's exception -/
def unX : Option Ent → Option Ent
  | some (.xn _) => none
  | e => e
def dropX (i : Nat) (s : Stt) : Stt := ⟨(s.env.map unX).set i none, s.M⟩
def enterX (i : Nat) (x : Exn) (s : Stt) : Stt := ⟨(s.env.map unX).set i (some (.xn x)), s.M⟩
theorem CnOk.chg {n : Nat} {p : Addr} {c : Cn} (e : ct2.c = ct.c) (h : CnOk K ct S n H p c) : CnOk K ct2 S n H p c := by
  cases c with
  | obj c fs =>
    obtain ⟨dx, fvs, h1, h2⟩ := h
    refine ⟨dx, fvs, ?_, h2⟩
    rw [e]; exact h1
  | _ => exact h
theorem Rel.chg (e : ct2.c = ct.c) (el : ct2.lk = ct.lk) (r : Rel K ct H0 S s σ H) : Rel K ct2 H0 S ⟨s.env.map unX, s.M⟩ σ H := by
  refine ⟨by rw [el]; exact r.sub, r.lg, r.dom, by show _ = (s.env.map unX).length; rw [List.length_map]; exact r.len, fun i en q => ?_, fun k c q => ⟨(r.ids k c q).1, (r.ids k c q).2.chg e⟩⟩
  have q1 : (s.env.map unX)[i]? = some (some en) := q
  rw [List.getElem?_map] at q1
  obtain ⟨z, e1, e2⟩ := Option.map_eq_some_iff.mp q1
  cases z with
  | none => cases e2
  | some z =>
    cases z with
    | xn x => cases e2
    | fz d => cases e2; exact r.slot i _ e1
    | ow c =>
      cases e2
      obtain ⟨p, h1, h2, h3, h4, h5⟩ := r.slot i _ e1
      exact ⟨p, h1, h2, h3, h4, h5.chg e⟩
theorem Rel.setXn {i : Nat} {a : Addr} {x : Exn} {d : Option Addr} (r : Rel K ct H0 S s σ H) (hx : ct.xa = some (a, ct x.cls, d)) (h : XOk K S s.M.length H x d) : Rel K ct H0 (S.un i) ⟨s.env.set i (some (.xn x)), s.M⟩ (σ.set i (some (.ref a))) H := by
  refine ⟨r.sub, fun a l q => r.lg a l (un_of q), r.dom, by rw [List.length_set]; show _ = (s.env.set i _).length; rw [List.length_set]; exact r.len, fun j en q => ?_, fun k c q => ?_⟩
  · have q1 : (s.env.set i (some (.xn x)))[j]? = some (some en) := q
    by_cases z : i = j
    · subst z
      have hlt : i < s.env.length := by
        have := (List.getElem?_eq_some_iff.mp q1).1
        rw [List.length_set] at this; exact this
      rw [List.getElem?_set_self hlt] at q1
      cases q1
      exact ⟨a, d, hx, List.getElem?_set_self (by rw [r.len]; exact hlt), h.mono (S := S) (n := s.M.length) (H := H) (fun _ _ e => e) (fun _ _ => rfl) (Nat.le_refl _)⟩
    · rw [List.getElem?_set_ne z] at q1
      have hh := r.slot j en q1
      cases en with
      | fz d' => obtain ⟨w, k1, k2⟩ := hh; exact ⟨w, by rw [List.getElem?_set_ne z]; exact k1, k2⟩
      | xn x => exact xn_mono (S := S) (n := s.M.length) (H := H) (fun _ _ e => e) (fun _ _ => rfl) (Nat.le_refl _) (List.getElem?_set_ne z) hh
      | ow c =>
        obtain ⟨p, k1, k2, k3, k4, k5⟩ := hh
        exact ⟨p, by rw [List.getElem?_set_ne z]; exact k1, k2, un_lab k3 (fun w => by cases w; exact z rfl), k4, cn_un k5⟩
  · obtain ⟨k1, k2⟩ := r.ids k c q
    exact ⟨un_lab k1 (fun w => by cases w), cn_un k2⟩
theorem ItOk.chg {Hs : Hp} {v : V} {a : AI} {i : Nat} {s' : Stt} (hM : s'.M = s.M) (e : ct2.c = ct.c) (h : ItOk K ct Hs S s [] H v a) : ItOk K ct2 Hs (S.un i) s' [] H v a := by
  cases a with
  | val d => show Rp K S.G S.α s'.M.length v d; rw [hM]; exact h
  | slot j => simp [ItOk] at h
  | new c =>
    obtain ⟨p, rfl, h1, h2, h3, h4, h5⟩ := h
    refine ⟨p, rfl, h1, ?_, h3, h4, by rw [hM]; exact cn_un (h5.chg e)⟩
    show (if S.lab p = some (.slot i) then none else S.lab p) = none
    rw [h2]; rfl
/-! ## try -/
def leaveX (i : Nat) : Rs → Rs
  | .nx s => .nx (dropX i s)
  | .bk s => .bk (dropX i s)
  | .ct s => .ct (dropX i s)
  | .rt a s => .rt a (dropX i s)
  | _ => .no
def mTryA (cat : Nat → Option Bool) (i : Nat) (mb ms : Ms) : Ms := fun s => match mb s with
  | .er x s1 => match cat x.cls with
    | some true => leaveX i (ms (enterX i x s1))
    | some false => .er x s1
    | none => .no
  | r => r
theorem sv_tryA {c : Value} {i : Nat} {tb : WX → TS} {ts : Addr → Value → Option Addr → TS} {cat : Nat → Option Bool} {mb ms : Ms} (hcat : ∀ k b, cat k = some b → PySem.W.exmOne K (.ref (ct k)) c = some b) (hb : ∀ W, Sv K ct H0 W (tb W) mb)
    (hs : ∀ a C d, Sv K ⟨ct.c, some (a, C, d), ct.lk⟩ H0 (fun _ _ _ _ => False) (ts a (.ref C) d) ms) : Sv K ct H0 W (tTryA K c i tb ts W) (mTryA cat i mb ms) := fun S s σ H Dn rel p => by
  refine hb _ S s σ H Dn rel ?_
  unfold mTryA at p
  cases q : mb s with
  | nx s1 => rw [q] at p; exact p
  | bk s1 => rw [q] at p; exact p
  | ct s1 => rw [q] at p; exact p
  | rt a s1 => rw [q] at p; exact p
  | no => rw [q] at p; exact p
  | er x s1 =>
    rw [q] at p
    simp only [] at p
    intro S1 σ1 H1 dd st1 rel1 xo
    cases hcx : cat x.cls with
    | none => rw [hcx] at p; exact False.elim p
    | some b =>
      rw [hcx] at p
      refine ⟨b, hcat _ _ hcx, fun eb a ha => ?_, fun eb => ?_⟩
      · subst eb
        simp only [] at p
        have rel2 : Rel K ⟨ct.c, some (a, ct x.cls, dd), ct.lk⟩ H0 (S1.un i) (enterX i x s1) (σ1.set i (some (.ref a))) H1 := (Rel.chg (ct := ct) (ct2 := ⟨ct.c, some (a, ct x.cls, dd), ct.lk⟩) rfl rfl rel1).setXn rfl xo
        refine hs a (ct x.cls) dd (S1.un i) (enterX i x s1) _ H1 _ rel2 ?_
        have bk : ∀ {S3 : Sh} {s3 : Stt} {σ3 : St} {H3 : Hp}, Rel K ⟨ct.c, some (a, ct x.cls, dd), ct.lk⟩ H0 S3 s3 σ3 H3 → Rel K ct H0 (S3.un i) (dropX i s3) (σ3.set i none) H3 := fun r3 => (Rel.chg (ct := ⟨ct.c, some (a, ct x.cls, dd), ct.lk⟩) (ct2 := ct) rfl rfl r3).setN2
        have stp : ∀ {S3 : Sh} {s3 : Stt} {H3 : Hp}, Stp (S1.un i) (enterX i x s1).M.length H1 S3 s3.M.length H3 → Stp S s.M.length H (S3.un i) (dropX i s3).M.length H3 := fun t3 => ((st1.trans .un).trans t3).trans .un
        cases q2 : ms (enterX i x s1) with
        | nx s3 => rw [q2] at p; exact fun S3 σ3 H3 st3 rel3 => p _ _ H3 (stp st3) (bk rel3)
        | bk s3 => rw [q2] at p; exact fun S3 σ3 H3 st3 rel3 => p _ _ H3 (stp st3) (bk rel3)
        | ct s3 => rw [q2] at p; exact fun S3 σ3 H3 st3 rel3 => p _ _ H3 (stp st3) (bk rel3)
        | rt a' s3 => rw [q2] at p; exact fun S3 σ3 v H3 st3 rel3 it => p _ _ v H3 (stp st3) (bk rel3) (ItOk.chg (ct := ⟨ct.c, some (a, ct x.cls, dd), ct.lk⟩) rfl rfl it)
        | er x' s3 => rw [q2] at p; exact False.elim p
        | no => rw [q2] at p; exact False.elim p
      · subst eb
        exact p S1 σ1 H1 dd st1 rel1 xo
/-! ### without a name, several clauses -/
def noEr : Rs → Rs
  | .er _ _ => .no
  | r => r
def clauses : List ((Nat → Option Bool) × Ms) → Exn → Ms
  | [], x => fun s => .er x s
  | (cat, ms) :: l, x => fun s => match cat x.cls with
    | some true => noEr (ms s)
    | some false => clauses l x s
    | none => .no
def mTryM (l : List ((Nat → Option Bool) × Ms)) (mb : Ms) : Ms := fun s => match mb s with
  | .er x s1 => clauses l x s1
  | r => r
inductive ClOk (K : PySem.W.Frag) (ct : Ct) (H0 : Hp) : List ((Nat → Option Bool) × Ms) → List (Value × (Addr → Value → Option Addr → TS)) → Prop
  | nil : ClOk K ct H0 [] []
  | cons {cat : Nat → Option Bool} {ms : Ms} {c : Value} {ts : Addr → Value → Option Addr → TS} {l : List ((Nat → Option Bool) × Ms)} {ls : List (Value × (Addr → Value → Option Addr → TS))} (hcat : ∀ k b, cat k = some b → PySem.W.exmOne K (.ref (ct k)) c = some b) (hs : ∀ a C d, Sv K ct H0 (fun _ _ _ _ => False) (ts a (.ref C) d) ms) (r : ClOk K ct H0 l ls) : ClOk K ct H0 ((cat, ms) :: l) ((c, ts) :: ls)
theorem noEr_ok {Dn : Ends} {r : Rs} (h : PstS K ct H0 W S s H Dn (noEr r)) : PstS K ct H0 (fun _ _ _ _ => False) S s H Dn r := by
  cases r with
  | er x s' => exact False.elim h
  | _ => exact h
theorem clauses_ok {Dn : Ends} {x : Exn} {dd : Option Addr} (rel : Rel K ct H0 S s σ H) (xo : XOk K S s.M.length H x dd) : ∀ {l : List ((Nat → Option Bool) × Ms)} {ls : List (Value × (Addr → Value → Option Addr → TS))}, ClOk K ct H0 l ls → PstS K ct H0 W S s H Dn (clauses l x s) → wMany K W Dn ls (.ref (ct x.cls)) dd σ H
  | _, _, .nil, p => p S σ H dd .refl rel xo
  | _, _, .cons (cat := cat) (ms := ms) (l := l) hcat hs r, p => by
    have p : PstS K ct H0 W S s H Dn (match cat x.cls with | some true => noEr (ms s) | some false => clauses l x s | none => .no) := p
    cases hcx : cat x.cls with
    | none => rw [hcx] at p; exact False.elim p
    | some b =>
      rw [hcx] at p
      refine ⟨b, hcat _ _ hcx, fun eb a ha => ?_, fun eb => ?_⟩
      · subst eb
        exact hs a _ dd S s σ H Dn rel (noEr_ok p)
      · subst eb
        exact clauses_ok rel xo r p
theorem sv_tryM {tb : WX → TS} {mb : Ms} {l : List ((Nat → Option Bool) × Ms)} {ls : List (Value × (Addr → Value → Option Addr → TS))} (hb : ∀ W, Sv K ct H0 W (tb W) mb) (hl : ClOk K ct H0 l ls) : Sv K ct H0 W (tTryM K ls tb W) (mTryM l mb) := fun S s σ H Dn rel p => by
  refine hb _ S s σ H Dn rel ?_
  unfold mTryM at p
  cases q : mb s with
  | nx s1 => rw [q] at p; exact p
  | bk s1 => rw [q] at p; exact p
  | ct s1 => rw [q] at p; exact p
  | rt a s1 => rw [q] at p; exact p
  | no => rw [q] at p; exact p
  | er x s1 =>
    rw [q] at p
    intro S1 σ1 H1 dd st1 rel1 xo
    exact clauses_ok rel1 xo hl (PstS.from p st1)
/-! ## e.f, isinstance(e, C) in the suite -/
def xnAt (s : Stt) (i : Nat) : Option Exn := match (s.env[i]?).getD none with
  | some (.xn x) => some x
  | _ => none
theorem xnAt_eq {i : Nat} {x : Exn} (h : xnAt s i = some x) : s.env[i]? = some (some (.xn x)) := by
  unfold xnAt at h
  cases q : s.env[i]? with
  | none => rw [q] at h; cases h
  | some z =>
    rw [q] at h
    cases z with
    | none => cases h
    | some z => cases z <;> cases h; rfl
def mXf (i c : Nat) (f : Str) : Mo AI := fun s => match xnAt s i with
  | some x => if x.cls = c then (match x.fs.lookup f with | some d => .ok (.val d) s | none => .no) else .no
  | none => .no
theorem lookup_rp {f : Str} {G : Hp} {α : Nat → Addr} {n : Nat} : ∀ {fvs : List (Str × V)} {fs : List (Str × D)} {d : D}, fvs.map Prod.fst = fs.map Prod.fst → RpL K G α n (fvs.map Prod.snd) (fs.map Prod.snd) → fs.lookup f = some d → ∃ v, fvs.lookup f = some v ∧ Rp K G α n v d
  | [], [], _, _, _, e => by cases e
  | (g, v) :: fvs, (g', d') :: fs, d, hk, .cons hr r, e => by
    rw [List.map_cons, List.map_cons] at hk
    obtain ⟨h1, h2⟩ := List.cons.inj hk
    have h1 : g = g' := h1
    subst h1
    rw [List.lookup_cons] at e ⊢
    cases q : (f == g) with
    | true => rw [q] at e; cases e; exact ⟨v, rfl, hr⟩
    | false => rw [q] at e; exact lookup_rp h2 r e
theorem ei_xf {i c : Nat} {f : Str} {a C : Addr} {d : Option Addr} (hxa : ct.xa = some (a, C, d)) : Ei K ct H0 W (tXf a (.ref C) d (ct c) f (tVar i)) (mXf i c f) := fun S s σ H Q rel p => by
  unfold mXf at p
  split at p
  · rename_i x e
    obtain ⟨a', d', h1, h2, h3⟩ := rel.slot i _ (xnAt_eq e)
    rw [hxa] at h1
    cases h1
    split at p
    · rename_i hc
      split at p
      · rename_i dv el
        rcases h3 with ⟨k1, _⟩ | ⟨dd, fvs, rfl, k1, k2, k3⟩
        · rw [k1] at el; cases el
        · obtain ⟨v, l1, l2⟩ := lookup_rp k2 k3 el
          exact ⟨_, h2, rfl, by rw [hc], dd, fvs, v, rfl, uX' (rel.sub _ _ k1), l1, p S v H .refl rel l2⟩
      · exact False.elim p
    · exact False.elim p
  · exact False.elim p
def mIsX (i : Nat) (tbl : Nat → Option Bool) : Mo AI := fun s => match xnAt s i with
  | some x => match tbl x.cls with
    | some b => .ok (.val (.bl b)) s
    | none => .no
  | none => .no
theorem ei_isX {i : Nat} {a C : Addr} {d : Option Addr} {c : V} {cv : Value} {tbl : Nat → Option Bool} (hxa : ct.xa = some (a, C, d)) (hc : ∀ u, RelV c u → u = cv) (ht : ∀ k b, tbl k = some b → ExcC K (ct k) ∧ PySem.W.kitOne K (.ref (ct k)) cv = some b) : Ei K ct H0 W (tCB (rIsX K (.ref C) a d) (tCons (tVar i) (tCons (tC c) tNil))) (mIsX i tbl) := fun S s σ H Q rel p => by
  unfold mIsX at p
  split at p
  · rename_i x e
    obtain ⟨a', d', h1, h2, h3⟩ := rel.slot i _ (xnAt_eq e)
    rw [hxa] at h1
    cases h1
    split at p
    · rename_i b eb
      obtain ⟨k1, k2⟩ := ht _ _ eb
      refine ⟨_, h2, ct x.cls, c, cv, b, rfl, k1, rfl, hc, k2, ?_, p S _ H .refl rel (.bl b)⟩
      rcases h3 with ⟨_, k⟩ | ⟨dd, fvs, k, k3, _⟩
      · exact .inl k
      · exact .inr ⟨dd, fvs, k, uX' (rel.sub _ _ k3)⟩
    · exact False.elim p
  · exact False.elim p
/-! ## raise -/
def mRaise (c : Nat) : Ms := fun s => .er ⟨c, []⟩ s
theorem sv_raise {c : Nat} : Sv K ct H0 W (tRaiseZ (ct c) W) (mRaise c) := fun S s σ H Dn rel p => p S σ H none .refl rel (.inl ⟨rfl, rfl⟩)
/-- __init__(self, words, f): B.__init__(self, words); self.f = f -/
def spA (K : PySem.W.Frag) (C : Addr) (f : Str) : Sp := fun vs H Q E => ∃ (a : Addr) (w x : V), vs = [.ref a, w, x] ∧ OexC K C ∧ PySem.W.findIn K (.ref C) f = some none ∧ H a = some (exo a C none) ∧ ∀ dx, H dx = none → dx ≠ a → Q .non (upd (upd H dx (exd dx [(f, x)])) a (exo a C (some dx)))
theorem spA_len {C : Addr} {f : Str} {vs : List V} {Q : VK} {E : XK} (h : spA K C f vs H Q E) : vs.length = 3 := by
  obtain ⟨a, w, x, rfl, _⟩ := h; rfl
theorem initA {C : Addr} {f n1 n2 n3 : Str} {vs : List V} {Q : VK} {E : XK} (h : spA K C f vs H Q E) :
    tSeq (tDrop (tVeI K (tCons (tVar 0) (tCons (tVar 1) tNil)))) (tOst K f (tVar 0) (tVar 2)) { nx := fun _ H' => Q .non H', rt := Q } (start [n1, n2, n3] vs) H := by
  obtain ⟨a, w, x, rfl, T, hf, ha, q⟩ := h
  refine ⟨_, rfl, _, rfl, a, C, [w], rfl, (by show 1 ≤ 1000; decide), T, ha, ?_⟩
  exact ⟨x, rfl, .ref a, rfl, a, C, rfl, T, hf, .inl ⟨ha, fun dx h1 h2 => q dx h1 h2⟩⟩
def mRaiseA (c : Nat) (f : Str) (m : Mo (List D)) : Ms := fun s => (m s).toS fun ds s1 => match ds with
  | [_, x] => .er ⟨c, [(f, x)]⟩ s1
  | _ => .no
def tRaiseA (C : Addr) (sp : Sp) (W : WX) (ta : TA) : TS := fun _ σ H => tMkO C sp [] ta σ H fun cls d H' => W cls d σ H'
theorem RpL.two {G : Hp} {α : Nat → Addr} {n : Nat} {vs : List V} {x y : D} (h : RpL K G α n vs [x, y]) : ∃ u v, vs = [u, v] ∧ Rp K G α n u x ∧ Rp K G α n v y := by
  cases h with
  | cons h1 h => cases h with
    | cons h2 h => cases h; exact ⟨_, _, rfl, h1, h2⟩
theorem sv_raiseA {c : Nat} {f : Str} {ta : TA} {m : Mo (List D)} (T : OexC K (ct c)) (hf : PySem.W.findIn K (.ref (ct c)) f = some none) (h : EvL K ct H0 W ta m) : Sv K ct H0 W (tRaiseA (ct c) (spA K (ct c) f) W ta) (mRaiseA c f m) := fun S s σ H Dn rel p =>
  h S s σ H _ rel (PstS.bind p fun S1 s1 H1 vs ds st1 rel1 i1 p1 => by
    split at p1
    · rename_i y x
      obtain ⟨u, v, rfl, r1, r2⟩ := RpL.two i1
      refine ⟨(by show 2 ≤ 1000; decide), fun a ha => ⟨a, u, v, rfl, T, hf, upd_same, fun dx hdx hne => ⟨rfl, dx, [(f, v)], upd_same, by rw [upd_ne hne, upd_same], (upd_none.mp hdx).2, ?_⟩⟩⟩
      have hd : H1 dx = none := (upd_none.mp hdx).2
      have eh : upd (L2.del (upd (upd (upd H1 a (exo a (ct c) none)) dx (exd dx [(f, v)])) a (exo a (ct c) (some dx))) a) dx (.xd [(f, v)]) = upd H1 dx (.xd [(f, v)]) := by
        funext b
        by_cases e1 : b = dx
        · rw [e1, upd_same, upd_same]
        · rw [upd_ne e1, upd_ne e1]
          by_cases e2 : b = a
          · rw [e2, L2.del_same, ha]
          · rw [L2.del_ne e2, upd_ne e2, upd_ne e1, upd_ne e2]
      rw [eh]
      have rel2 := (rel1.new (o := .xd [(f, v)]) hd).frz (p := dx) (uX upd_same) (rel1.labN hd) (rel1.gN hd)
      have st2 : Stp S1 s1.M.length H1 (S1.frz dx (.xd [(f, v)])) s1.M.length (upd H1 dx (.xd [(f, v)])) := Stp.frz (rel1.gN hd) (.inl hd) (fun b e => (upd_none.mp e).2) (fun b w e _ => by rw [upd_ne (ne_of_none e hd)]; exact e)
      exact p1 _ σ _ (some dx) (st1.trans st2) rel2 (.inr ⟨dx, [(f, v)], rfl, upd_same, rfl, .cons (r2.mono st2.g st2.al st2.le) .nil⟩)
    · exact False.elim p1)
end
end Y

namespace Y
open PySem L2 Z
/-! ## a def that lets nothing out, though it has a try -/
def mFn0 (np n : Nat) (body : Ms) : Mf := mFn np n fun s => noEr (body s)
section
variable {K : PySem.W.Frag} {ct : Ct} {H : Hp}
theorem sv_no {H0 : Hp} {W : WX} {t : TS} {m : Ms} (h : Sv K ct H0 (fun _ _ _ _ => False) t m) : Sv K ct H0 W t fun s => noEr (m s) := fun S s σ H Dn rel p => h S s σ H Dn rel (noEr_ok p)
theorem fn_run0 {N : List Str} {np : Nat} {t : TS} {body : Ms} {vs : List V} {Q : VK} {E : XK} (hb : Sv K ct H (fun _ _ _ _ => False) t body) (h : spM K ct (mFn0 np N.length body) vs H Q E) : t { nx := fun _ H' => Q .non H', rt := Q } (start N vs) H := fn_run (sv_no hb) h
end
theorem sp_len0 {K : PySem.W.Frag} {ct : Ct} {H : Hp} {np n : Nat} {body : Ms} {vs : List V} {Q : VK} {E : XK} (h : spM K ct (mFn0 np n body) vs H Q E) : vs.length = np := sp_len (body := fun s => noEr (body s)) h
/-! ## steps -/
def Fx (P : AI → List Cn → Prop) (E : Exn → List Cn → Prop) : Fr → Prop
  | .ok a M => P a M
  | .er x M => E x M
  | .no => False
def Ox (P : AI → List Cn → Prop) (E : Exn → List Cn → Prop) : Rs → Prop
  | .rt a s => P a s.M
  | .er x s => E x s.M
  | _ => False
section
variable {QA : AI → Stt → Prop} {X : Exn → Stt → Prop} {N : Stt → Prop} {O : Rs → Prop} {s : Stt} {M : List Cn} {P P' : AI → List Cn → Prop} {E E' : Exn → List Cn → Prop}
theorem f_fnX {np n : Nat} {b : Ms} {ds : List D} (hl : ds.length = np) (h : Ws (fun s => P (.val .non) s.M) (Ox P E) (b ⟨ds.map (fun d => some (.fz d)) ++ List.replicate (n - ds.length) none, M⟩)) : Fx P E (mFn np n b ds M) := by
  unfold mFn
  rw [if_pos hl]
  cases q : b ⟨ds.map (fun d => some (.fz d)) ++ List.replicate (n - ds.length) none, M⟩ <;> rw [q] at h <;> exact h
theorem f_fn0 {np n : Nat} {b : Ms} {ds : List D} (hl : ds.length = np) (h : Ws (fun s => P (.val .non) s.M) (Oe P) (b ⟨ds.map (fun d => some (.fz d)) ++ List.replicate (n - ds.length) none, M⟩)) : Fo P (mFn0 np n b ds M) := by
  refine f_fn hl ?_
  cases q : b ⟨ds.map (fun d => some (.fz d)) ++ List.replicate (n - ds.length) none, M⟩ <;> rw [q] at h <;> exact h
theorem fx_use {r : Fr} (h : Fx P E r) (k : ∀ a M', P a M' → P' a M') (k2 : ∀ x M', E x M' → E' x M') : Fx P' E' r := by
  cases r with
  | ok a M => exact k a M h
  | er x M => exact k2 x M h
  | no => exact h
theorem fx_eq {r : Fr} {a : AI} {M' : List Cn} (e : r = .ok a M') (h : P a M') : Fx P E r := by subst e; exact h
theorem fx_er {r : Fr} {x : Exn} {M' : List Cn} (e : r = .er x M') (h : E x M') : Fx P E r := by subst e; exact h
theorem fx_ok {r : Fr} {a : AI} {M' : List Cn} (h : Fx (fun a' M'' => a' = a ∧ M'' = M') (fun _ _ => False) r) : r = .ok a M' := by
  cases r with
  | ok a' M'' => obtain ⟨rfl, rfl⟩ := h; rfl
  | er _ _ => exact False.elim h
  | no => exact False.elim h
theorem fx_isEr {r : Fr} {x : Exn} {M' : List Cn} (h : Fx (fun _ _ => False) (fun x' M'' => x' = x ∧ M'' = M') r) : r = .er x M' := by
  cases r with
  | ok a' M'' => exact False.elim h
  | er _ _ => obtain ⟨rfl, rfl⟩ := h; rfl
  | no => exact False.elim h
theorem w_call {f : Mf} {ma : Mo (List D)} (h : Wo (fun ds s1 => Fx (fun a M' => QA a ⟨s1.env, M'⟩) (fun x M' => X x ⟨s1.env, M'⟩) (f ds s1.M)) X (ma s)) : Wo QA X (mCall f ma s) := w_bind (w_mono h fun ds s1 h => by
  show Wo QA X (match f ds s1.M with | .ok a M' => _ | .er x M' => _ | .no => _)
  cases q : f ds s1.M <;> rw [q] at h <;> exact h)
theorem w_raise {c : Nat} (h : O (.er ⟨c, []⟩ s)) : Ws N O (mRaise c s) := h
theorem w_raiseA {c : Nat} {f : Str} {m : Mo (List D)} (h : Wo (fun ds s1 => ∃ w x, ds = [w, x] ∧ O (.er ⟨c, [(f, x)]⟩ s1)) (fun x s => O (.er x s)) (m s)) : Ws N O (mRaiseA c f m s) := w_toS (w_mono h fun ds s1 ⟨w, x, e, h⟩ => by subst e; exact h)
/-- behind a suite -/
def Olv (i : Nat) (O : Rs → Prop) : Rs → Prop
  | .bk s => O (.bk (dropX i s))
  | .ct s => O (.ct (dropX i s))
  | .rt a s => O (.rt a (dropX i s))
  | _ => False
def Otry (cat : Nat → Option Bool) (i : Nat) (ms : Ms) (N : Stt → Prop) (O : Rs → Prop) : Rs → Prop
  | .er x s1 => (cat x.cls = some true ∧ Ws (fun s => N (dropX i s)) (Olv i O) (ms (enterX i x s1))) ∨ (cat x.cls = some false ∧ O (.er x s1))
  | r => O r
theorem w_tryA {cat : Nat → Option Bool} {i : Nat} {mb ms : Ms} (h : Ws N (Otry cat i ms N O) (mb s)) : Ws N O (mTryA cat i mb ms s) := by
  unfold mTryA
  cases q : mb s with
  | er x s1 =>
    rw [q] at h
    rcases h with ⟨e, h⟩ | ⟨e, h⟩
    · simp only []
      rw [e]
      simp only []
      cases q2 : ms (enterX i x s1) <;> rw [q2] at h <;> exact h
    · simp only []
      rw [e]
      exact h
  | _ => rw [q] at h; exact h
theorem w_xf {i c : Nat} {f : Str} {x : Exn} {d : D} (e : xnAt s i = some x) (hc : x.cls = c) (l : x.fs.lookup f = some d) (h : QA (.val d) s) : Wo QA X (mXf i c f s) := by
  unfold mXf; rw [e]; simp only []; rw [if_pos hc, l]; exact h
theorem w_isX {i : Nat} {tbl : Nat → Option Bool} {x : Exn} {b : Bool} (e : xnAt s i = some x) (l : tbl x.cls = some b) (h : QA (.val (.bl b)) s) : Wo QA X (mIsX i tbl s) := by
  unfold mIsX; rw [e]; simp only []; rw [l]; exact h
def Ocl (l : List ((Nat → Option Bool) × Ms)) (N : Stt → Prop) (O : Rs → Prop) : Rs → Prop
  | .er x s1 => Ws N O (clauses l x s1)
  | r => O r
theorem w_tryM {l : List ((Nat → Option Bool) × Ms)} {mb : Ms} (h : Ws N (Ocl l N O) (mb s)) : Ws N O (mTryM l mb s) := by
  unfold mTryM
  cases q : mb s <;> rw [q] at h <;> exact h
theorem w_clY {cat : Nat → Option Bool} {ms : Ms} {l : List ((Nat → Option Bool) × Ms)} {x : Exn} (e : cat x.cls = some true) (h : Ws N (fun r => match r with | .er _ _ => False | r => O r) (ms s)) : Ws N O (clauses ((cat, ms) :: l) x s) := by
  show Ws N O (match cat x.cls with | some true => noEr (ms s) | some false => clauses l x s | none => .no)
  rw [e]
  simp only []
  cases q : ms s <;> rw [q] at h <;> exact h
theorem w_clN {cat : Nat → Option Bool} {ms : Ms} {l : List ((Nat → Option Bool) × Ms)} {x : Exn} (e : cat x.cls = some false) (h : Ws N O (clauses l x s)) : Ws N O (clauses ((cat, ms) :: l) x s) := by
  show Ws N O (match cat x.cls with | some true => noEr (ms s) | some false => clauses l x s | none => .no)
  rw [e]; exact h
theorem w_cl0 {x : Exn} (h : O (.er x s)) : Ws N O (clauses [] x s) := h
end
end Y

namespace Y
open PySem L2 Z
section
variable {K : PySem.W.Frag} {ct : Ct} {H0 : Hp} {W : WX}
/-! ## abs -/
def rAbs : List V → Hp → VK → Prop := fun xs H Q => ∃ i : Int, xs = [.int i] ∧ Q (.int (if i < 0 then -i else i)) H
theorem call_absY {X : Cx} : CallR X (.builtin "abs") rAbs := call_abs
def fAbs (s : Stt) (as : List AI) : Ro AI := match as with
  | [.val (.int i)] => .ok (.val (.int (if i < 0 then -i else i))) s
  | _ => .no
theorem jb_abs : JB K ct H0 rAbs fAbs := fun W S s σ H Hs vs as Q rel ia p => by
  unfold fAbs at p
  split at p
  · rename_i i
    obtain ⟨v, rfl, h⟩ := as1 ia
    cases rp_int h
    exact ⟨i, rfl, p.val rel (.int _)⟩
  · exact False.elim p
/-! ## text.index(text) -/
def sIdx (a b : Str) : Option Nat := (Builtin.Str.occurrences a b 0 a.length 1).head?
def rSIdx : V → List V → Hp → VK → Prop := fun x xs H Q => ∃ a b i rest, x = .str a ∧ xs = [.str b] ∧ Builtin.Str.occurrences a b 0 a.length 1 = i :: rest ∧ Q (.int (i : Nat)) H
theorem pe_sidx {X : Cx} {o e : Expr} {to te : TE} {apos pos : Pos} (ho : PE X o to) (he : PE X e te) (hs : starEach [e] X.env = [(false, eval e X.env)] := by rfl) (hbase : attributeBase o "index" X.env (eval o X.env) = eval o X.env := by rfl) (hline : (apos.endLine == pos.line) = true := by rfl) :
    PE X (.Call (.Attribute o "index" apos) [e] [] pos) (tM1 rSIdx to te) := pe_m1 F.slot_str_index F.type_str_index mt_sindex ho he hs hbase hline
def mSIdx (mo ma : Mo AI) : Mo AI := fun s => (mo s).bind fun a s1 => match a with
  | .val (.str x) => (ma s1).bind fun b s2 => match b with
    | .val (.str y) => match sIdx x y with
      | some i => .ok (.val (.int (i : Nat))) s2
      | none => .no
    | _ => .no
  | _ => .no
theorem ei_sidx {to te : TE} {mo ma : Mo AI} (ho : Ei K ct H0 W to mo) (ha : Ei K ct H0 W te ma) : Ei K ct H0 W (tM1 rSIdx to te) (mSIdx mo ma) := fun S s σ H Q rel p =>
  ho S s σ H _ rel (Pst.bind bI p fun S1 s1 H1 x a st1 rel1 i1 p1 => by
    split at p1
    · rename_i z
      cases rp_str i1
      refine ⟨⟨z, rfl⟩, ha S1 s1 σ H1 _ rel1 (Pst.bind bI p1 fun S2 s2 H2 y b st2 rel2 i2 p2 => ?_)⟩
      split at p2
      · rename_i w
        cases rp_str i2
        split at p2
        · rename_i i e
          unfold sIdx at e
          obtain ⟨r, hr⟩ : ∃ r, Builtin.Str.occurrences z w 0 z.length 1 = i :: r := by
            cases q : Builtin.Str.occurrences z w 0 z.length 1 with
            | nil => rw [q] at e; cases e
            | cons j r => rw [q] at e; cases e; exact ⟨r, rfl⟩
          exact ⟨z, w, i, r, rfl, rfl, hr, p2.val rel2 (.int _)⟩
        · exact False.elim p2
      · exact False.elim p2
    · exact False.elim p1)
end
section
variable {s : Stt} {X : Exn → Stt → Prop} {QA : AI → Stt → Prop} {QI : Im → Stt → Prop} {m1 m2 : Mo AI}
theorem w_abs {i : Int} (h : QA (.val (.int (if i < 0 then -i else i))) s) : Wo QA X (fAbs s [.val (.int i)]) := h
theorem w_sidx (h : Wo (fun a s1 => ∃ x, a = .val (.str x) ∧ Wo (fun b s2 => ∃ y i, b = .val (.str y) ∧ sIdx x y = some i ∧ QA (.val (.int (i : Nat))) s2) X (m2 s1)) X (m1 s)) : Wo QA X (mSIdx m1 m2 s) := w_bind (w_mono h fun a s1 ⟨x, e, h⟩ => by
  subst e
  exact w_bind (w_mono h fun b s2 ⟨y, i, e, e2, h⟩ => by
    subst e
    show Wo QA X (match sIdx x y with | some i => _ | none => _)
    rw [e2]; exact h))
open Classical in
theorem w_rng3 {r : Mo (List AI)} (h : Wo (fun as s1 => ∃ (i j c : Int) (n : Nat), as = [.val (.int i), .val (.int j), .val (.int c)] ∧ RgC i j c n ∧ QI ⟨rngC i c n, none⟩ s1) X (r s)) : Wo QI X (mRng3 r s) := w_bind (w_mono h fun as s1 ⟨i, j, c, n, e, hz, h⟩ => by
  subst e
  have en : (Builtin.Range.rangeSize i j c).toNat = n := by rw [hz.2.2.2]; rfl
  show Wo QI X (if RgC i j c (Builtin.Range.rangeSize i j c).toNat then Ro.ok ⟨rngC i c (Builtin.Range.rangeSize i j c).toNat, none⟩ s1 else _)
  rw [en, if_pos hz]; exact h)
theorem rngC_get {lo c : Int} {n i : Nat} {d : D} (h : (rngC lo c n)[i]? = some d) : i < n ∧ d = .int (lo + (i : Int) * c) := by
  unfold rngC at h
  rw [List.getElem?_map] at h
  obtain ⟨k, e1, e2⟩ := Option.map_eq_some_iff.mp h
  obtain ⟨h1, h2⟩ := List.getElem?_eq_some_iff.mp e1
  rw [List.length_range] at h1
  rw [List.getElem_range] at h2
  subst h2
  exact ⟨h1, e2.symm⟩
theorem rngC_len {lo c : Int} {n : Nat} : (rngC lo c n).length = n := by unfold rngC; rw [List.length_map, List.length_range]
end
end Y

namespace Y
open PySem L2 Z
/-! ## a dict is walked -/
inductive KD where
  | keys | vals | items
def kD : Key → D
  | .inl i => .int i
  | .inr x => .str x
def dIt : KD → List (Key × D) → List D
  | .keys, l => l.map fun p => kD p.1
  | .vals, l => l.map Prod.snd
  | .items, l => l.map fun p => .tup [kD p.1, p.2]
def dI : KD → Nat → TI
  | .keys, i => iKeys (tVar i)
  | .vals, i => iVals (tVar i)
  | .items, i => iItems (tVar i)
section
variable {K : PySem.W.Frag} {ct : Ct} {H0 : Hp} {W : WX} {S : Sh} {s : Stt} {σ : St} {H : Hp}
theorem kD_rp {G : Hp} {α : Nat → Addr} {n : Nat} (k : Key) : Rp K G α n (kV k) (kD k) := by
  cases k with
  | inl i => exact .int i
  | inr x => exact .str x
theorem RpK.at {G : Hp} {α : Nat → Addr} {n : Nat} : ∀ {kvs : List (Key × V)} {l : List (Key × D)} {i : Nat} {k : Key} {d : D}, RpK K G α n kvs l → l[i]? = some (k, d) → ∃ v, kvs[i]? = some (k, v) ∧ Rp K G α n v d
  | _, _, _, _, _, .nil, e => by simp at e
  | _, _, 0, _, _, .cons a _, e => by simp at e; obtain ⟨rfl, rfl⟩ := e; exact ⟨_, rfl, a⟩
  | _, _, i + 1, _, _, .cons _ r, e => by
    simp at e
    obtain ⟨v, h1, h2⟩ := r.at e
    exact ⟨v, by simpa using h1, h2⟩
theorem RpK.step' {G G' : Hp} {α α' : Nat → Addr} {n n' : Nat} (g : Same G G') (ha : ∀ k, k < n → α' k = α k) (hn : n ≤ n') : ∀ {kvs : List (Key × V)} {l : List (Key × D)}, RpK K G α n kvs l → RpK K G' α' n' kvs l
  | _, _, .nil => .nil
  | _, _, .cons a r => .cons (a.mono g ha hn) (r.step' g ha hn)
def dJ : KD → Addr → Obj → List (Key × V) → It
  | .keys, d, o, kvs => Itk d o kvs
  | .vals, d, o, kvs => Itd d o kvs
  | .items, d, o, kvs => Iti d o kvs
theorem wk_d {kd : KD} {d : Addr} {o : Obj} {kvs : List (Key × V)} {l : List (Key × D)} (hd : H d = some (.frz o (.dK kvs))) (hl : S.lab d = none) (r : RpK K S.G S.α s.M.length kvs l) : Wk K ct H0 S s.M.length H (dJ kd d o kvs) ⟨dIt kd l, none⟩ := fun S1 s1 σ1 H1 st rel _ => by
  have h1 := (st.fr d _ hd hl).1
  have r1 := r.step' st.g st.al st.le
  have hlen := r.len
  cases kd with
  | keys =>
    refine ⟨fun i x e => ?_, ⟨h1, by show kvs.length ≤ (l.map _).length; rw [List.length_map]; omega⟩⟩
    have e : (l.map fun p => kD p.1)[i]? = some x := e
    rw [List.getElem?_map] at e
    obtain ⟨⟨k, y⟩, e1, rfl⟩ := Option.map_eq_some_iff.mp e
    obtain ⟨v, e2, e3⟩ := r1.at e1
    refine ⟨⟨h1, (List.getElem?_eq_some_iff.mp e2).1⟩, fun x H2 hy => ?_⟩
    obtain ⟨rfl, k', v', q1, rfl⟩ := hy
    rw [e2] at q1; cases q1
    exact ⟨S1, .refl, rel, kD_rp k⟩
  | vals =>
    refine ⟨fun i x e => ?_, ⟨h1, by show kvs.length ≤ (l.map _).length; rw [List.length_map]; omega⟩⟩
    have e : (l.map Prod.snd)[i]? = some x := e
    rw [List.getElem?_map] at e
    obtain ⟨⟨k, y⟩, e1, rfl⟩ := Option.map_eq_some_iff.mp e
    obtain ⟨v, e2, e3⟩ := r1.at e1
    refine ⟨⟨h1, (List.getElem?_eq_some_iff.mp e2).1⟩, fun x H2 hy => ?_⟩
    obtain ⟨rfl, k', q1⟩ := hy
    rw [e2] at q1; cases q1
    exact ⟨S1, .refl, rel, e3⟩
  | items =>
    refine ⟨fun i x e => ?_, ⟨h1, by show kvs.length ≤ (l.map _).length; rw [List.length_map]; omega⟩⟩
    have e : (l.map fun p => D.tup [kD p.1, p.2])[i]? = some x := e
    rw [List.getElem?_map] at e
    obtain ⟨⟨k, y⟩, e1, rfl⟩ := Option.map_eq_some_iff.mp e
    obtain ⟨v, e2, e3⟩ := r1.at e1
    refine ⟨⟨h1, (List.getElem?_eq_some_iff.mp e2).1⟩, fun x H2 hy => ?_⟩
    obtain ⟨T, k', v', q1, rfl, hT, rfl⟩ := hy
    rw [e2] at q1; cases q1
    exact new_tup rel hT (.cons (kD_rp k) (.cons e3 .nil))
theorem dI_go {kd : KD} {i : Nat} {d : Addr} {o : Obj} {kvs : List (Key × V)} {R : It → Hp → Prop} (hs : σ[i]? = some (some (.ref d))) (hd : H d = some (.frz o (.dK kvs))) (h : R (dJ kd d o kvs) H) : dI kd i σ H R := by
  cases kd with
  | keys => exact ⟨_, hs, d, o, rfl, .inl ⟨kvs, hd, h⟩⟩
  | vals => exact ⟨_, hs, d, o, kvs, rfl, hd, h⟩
  | items => exact ⟨_, hs, d, o, kvs, rfl, hd, h⟩
/-! ### the lock -/
def Ct.lkd (ct : Ct) (d : Option Addr) : Ct := ⟨ct.c, ct.xa, d⟩
theorem CnOk.lkd {b : Option Addr} {n : Nat} {p : Addr} {c : Cn} (h : CnOk K ct S n H p c) : CnOk K (ct.lkd b) S n H p c := by
  cases c <;> exact h
theorem CnOk.unlkd {b : Option Addr} {n : Nat} {p : Addr} {c : Cn} (h : CnOk K (ct.lkd b) S n H p c) : CnOk K ct S n H p c := by
  cases c <;> exact h
/-- a frozen dict is locked -/
theorem Rel.lock {d : Addr} {od : Obj} {kvs : List (Key × V)} (hlk : ct.lk = none) (r : Rel K ct H0 S s σ H) (hg : S.G d = some (.dK kvs)) : H d = some (.dK kvs) ∧ Rel K (ct.lkd (some d)) H0 S s σ (upd H d (.frz od (.dK kvs))) := by
  have hs : Same S.G H := by have := r.sub; rw [hlk, U0] at this; exact this
  have hd := hs _ _ hg
  have ne : ∀ {a : Addr} {l : Lab}, S.lab a = some l → a ≠ d := fun {a l} h z => by subst z; rw [(r.lg a l h).1] at hg; cases hg
  have cn : ∀ {a : Addr} {l : Lab} {c : Cn}, S.lab a = some l → CnOk K ct S s.M.length H a c → CnOk K (ct.lkd (some d)) S s.M.length (upd H d (.frz od (.dK kvs))) a c := fun {a l c} hl h => (h.mono (H' := upd H d (.frz od (.dK kvs))) (fun _ _ e => e) (fun _ _ => rfl) (Nat.le_refl _) (fun o e => by rw [upd_ne (ne hl)]; exact e)).lkd
  refine ⟨hd, ⟨fun a u e => ?_, fun a l e => ?_, fun a e => r.dom a (upd_none.mp e).2, r.len, fun i en q => ?_, fun k c q => ?_⟩⟩
  · show U (some d) _ a = some u
    by_cases z : a = d
    · subst z
      rw [hg] at e; cases e
      unfold U; rw [if_pos rfl, upd_same]; rfl
    · unfold U; rw [if_neg (by simp; exact fun q => z q.symm), upd_ne z]; exact hs _ _ e
  · obtain ⟨h1, o, h2⟩ := r.lg a l e
    exact ⟨h1, o, by rw [upd_ne (ne e)]; exact h2⟩
  · have hh := r.slot i en q
    cases en with
    | fz x => exact hh
    | xn x => exact xn_mono (S := S) (n := s.M.length) (H := H) (fun _ _ e => e) (fun _ _ => rfl) (Nat.le_refl _) rfl hh
    | ow c =>
      obtain ⟨p, h1, h2, h3, h4, h5⟩ := hh
      exact ⟨p, h1, h2, h3, h4, cn h3 h5⟩
  · obtain ⟨h1, h2⟩ := r.ids k c q
    exact ⟨h1, cn h1 h2⟩
theorem Rel.unlock {d : Addr} {kvs : List (Key × V)} {S' : Sh} {s' : Stt} {H' : Hp} (hlk : ct.lk = none) (r : Rel K (ct.lkd (some d)) H0 S' s' σ H') (hg : S'.G d = some (.dK kvs)) : Rel K ct H0 S' s' σ (upd H' d (.dK kvs)) := by
  have ne : ∀ {a : Addr} {l : Lab}, S'.lab a = some l → a ≠ d := fun {a l} h z => by subst z; rw [(r.lg a l h).1] at hg; cases hg
  have cn : ∀ {a : Addr} {l : Lab} {c : Cn}, S'.lab a = some l → CnOk K (ct.lkd (some d)) S' s'.M.length H' a c → CnOk K ct S' s'.M.length (upd H' d (.dK kvs)) a c := fun {a l c} hl h => (h.mono (H' := upd H' d (.dK kvs)) (fun _ _ e => e) (fun _ _ => rfl) (Nat.le_refl _) (fun o e => by rw [upd_ne (ne hl)]; exact e)).unlkd
  refine ⟨fun a u e => ?_, fun a l e => ?_, fun a e => r.dom a (upd_none.mp e).2, r.len, fun i en q => ?_, fun k c q => ?_⟩
  · rw [hlk, U0]
    by_cases z : a = d
    · subst z
      rw [hg] at e; cases e; exact upd_same
    · rw [upd_ne z]
      have := r.sub a u e
      have h2 : U (some d) H' a = some u := this
      unfold U at h2; rw [if_neg (by simp; exact fun q => z q.symm)] at h2; exact h2
  · obtain ⟨h1, o, h2⟩ := r.lg a l e
    exact ⟨h1, o, by rw [upd_ne (ne e)]; exact h2⟩
  · have hh := r.slot i en q
    cases en with
    | fz x => exact hh
    | xn x => exact xn_mono (S := S') (n := s'.M.length) (H := H') (fun _ _ e => e) (fun _ _ => rfl) (Nat.le_refl _) rfl hh
    | ow c =>
      obtain ⟨p, h1, h2, h3, h4, h5⟩ := hh
      exact ⟨p, h1, h2, h3, h4, cn h3 h5⟩
  · obtain ⟨h1, h2⟩ := r.ids k c q
    exact ⟨h1, cn h1 h2⟩
theorem Stp.lockd {d : Addr} {od : Obj} {u : HO} {S' : Sh} {n n' : Nat} {H' : Hp} (hd : H d = some u) (t : Stp S n (upd H d (.frz od u)) S' n' H') : Stp S n H S' n' (upd H' d u) where
  g := t.g
  le := t.le
  al := t.al
  fr := fun a o h l => by
    by_cases z : a = d
    · subst z
      rw [hd] at h; cases h
      exact ⟨upd_same, (t.fr a _ upd_same l).2⟩
    · obtain ⟨h1, h2⟩ := t.fr a o (by rw [upd_ne z]; exact h) l
      exact ⟨by rw [upd_ne z]; exact h1, h2⟩
  gn := fun a o e => by
    rcases t.gn a o e with h | h | h
    · exact .inl h
    · exact .inr (.inl (upd_none.mp h).2)
    · exact .inr (.inr h)
  dom := fun a h => (upd_none.mp (t.dom a (upd_none.mp h).2)).2
/-! ### a comprehension over a dict -/
noncomputable def mLcD (kd : KD) (i : Nat) (ws : List Nat) (g : Tg) (c : Mo Bool) (e : Mo AI) : Mo AI := fun s => match entAt s i with
  | some (.fz (.dK l)) => mLc ws (fun s => .ok ⟨dIt kd l, none⟩ s) g c e s
  | some (.ow (.dK l)) => (mLc ws (fun s => .ok ⟨dIt kd l, none⟩ s) g c e ⟨s.env.set i none, s.M⟩).bind fun a s1 => .ok a ⟨s1.env.set i (some (.ow (.dK l))), s1.M⟩
  | _ => .no
theorem mLc_er {ws : List Nat} {im : Im} {g : Tg} {c : Mo Bool} {e : Mo AI} {x : Exn} {s s' : Stt} : mLc ws (fun s => .ok im s) g c e s ≠ .er x s' := fun h => by
  have h : (match lcN ws g c (mV e) im.ck im.xs [] (wipeS ws s) with | .ok l s2 => Ro.ok (AI.new (.lst l)) ⟨rest s.env s2.env ws, s2.M⟩ | _ => .no) = .er x s' := h
  split at h <;> cases h
theorem set_self {σ : St} {i : Nat} {v : V} (h : σ[i]? = some (some v)) : σ.set i (some v) = σ := by
  obtain ⟨h1, h2⟩ := List.getElem?_eq_some_iff.mp h
  rw [← h2]; exact List.set_getElem_self h1
theorem ei_lcD {kd : KD} {i : Nat} {js ws : List Nat} {g : TG} {tt : TT} {te : TE} {f : Tg} {c : Mo Bool} {e : Mo AI} (hlk : ct.lk = none) (hg : ∀ b, Sg K (ct.lkd b) H0 js g f) (hjs : ∀ j ∈ js, j ∈ ws) (hc : ∀ b, Et K (ct.lkd b) H0 W0 tt c) (he : ∀ b, Ei K (ct.lkd b) H0 W0 te e) :
    Ei K ct H0 W (tLockE (tLc (dI kd i) g tt te ws)) (mLcD kd i ws f c e) := fun S s σ H Q rel p => by
  have ect : ct.lkd none = ct := by cases ct; cases hlk; rfl
  unfold mLcD at p
  split at p
  · rename_i l en
    obtain ⟨v, h1, h2⟩ := rel.slot i _ (entAt_eq en)
    cases h2 with
    | @dK d kvs _ k1 k2 k3 =>
      have rk := RpK.of k2 k3
      obtain ⟨hd, _⟩ := rel.lock (od := default) hlk k1
      have hlab : S.lab d = none := by
        cases q : S.lab d with
        | none => rfl
        | some z => rw [(rel.lg d z q).1] at k1; cases k1
      refine ⟨d, _, hd, trivial, fun od => ?_⟩
      have rl := (rel.lock (od := od) hlk k1).2
      refine ei_lcAt (K := K) (ct := ct.lkd (some d)) (H0 := H0) (W := W0) (S := S) (s := s) (mi := fun s => .ok ⟨dIt kd l, none⟩ s) (fun R q => dI_go h1 upd_same (q S _ _ .refl rl (wk_d upd_same hlab rk))) (hg _) hjs (hc _) (he _) ?_
      have hne : ∀ x s', mLc ws (fun s => .ok ⟨dIt kd l, none⟩ s) f c e s ≠ .er x s' := fun _ _ => mLc_er
      generalize mLc ws (fun s => .ok ⟨dIt kd l, none⟩ s) f c e s = R at p hne
      cases R with
      | no => exact p
      | er x s' => exact absurd rfl (hne _ _)
      | ok a s' =>
        intro S' b H' st rel' it
        have hd' := (st.fr d _ upd_same hlab).1
        have g' : S'.G d = some (.dK kvs) := st.g _ _ k1
        refine ⟨hd', p S' b _ (st.lockd hd) (rel'.unlock hlk g') ?_⟩
        cases a with
        | val x => exact it
        | slot j => exact it
        | new c' =>
          obtain ⟨pp, rfl, i1, i2, i3, i4, i5⟩ := it
          have ne : pp ≠ d := fun z => by subst z; rw [i3] at g'; cases g'
          exact ⟨pp, rfl, (upd_none.mp i1).2, i2, i3, i4, (i5.mono (H' := upd H' d (.dK kvs)) (fun _ _ e => e) (fun _ _ => rfl) (Nat.le_refl _) (fun o e => by rw [upd_ne ne]; exact e)).unlkd⟩
  · rename_i l en
    obtain ⟨d, h1, h2, h3, h4, h5⟩ := rel.slot i _ (entAt_eq en)
    obtain ⟨kvs, hd, k2, k3⟩ := h5
    have hgd := (rel.lg d _ h3).1
    have rk : RpK K (S.un i).G (S.un i).α s.M.length kvs l := RpK.of k2 k3
    have hlab : (S.un i).lab d = none := by show (if S.lab d = some (.slot i) then none else S.lab d) = none; rw [if_pos h3]
    refine ⟨d, _, hd, trivial, fun od => ?_⟩
    have rl : Rel K ct H0 (S.un i) ⟨s.env.set i none, s.M⟩ σ (upd H d (.frz od (.dK kvs))) := rel.setN.updU hlab hgd
    refine ei_lcAt (K := K) (ct := ct) (H0 := H0) (W := W0) (S := S.un i) (s := ⟨s.env.set i none, s.M⟩) (mi := fun s => .ok ⟨dIt kd l, none⟩ s) (fun R q => dI_go h1 upd_same (q (S.un i) _ _ .refl rl (wk_d (s := ⟨s.env.set i none, s.M⟩) upd_same hlab rk))) (by have := hg none; rw [ect] at this; exact this) hjs (by have := hc none; rw [ect] at this; exact this) (by have := he none; rw [ect] at this; exact this) ?_
    have hne : ∀ x s', mLc ws (fun s => .ok ⟨dIt kd l, none⟩ s) f c e ⟨s.env.set i none, s.M⟩ ≠ .er x s' := fun _ _ => mLc_er
    generalize mLc ws (fun s => .ok ⟨dIt kd l, none⟩ s) f c e ⟨s.env.set i none, s.M⟩ = R at p hne
    cases R with
    | no => exact p
    | er x s' => exact absurd rfl (hne _ _)
    | ok a s' =>
      intro S' b H' st rel' it
      obtain ⟨hd', hl'⟩ := st.fr d _ upd_same hlab
      have hg' : S'.G d = none := by
        cases q : S'.G d with
        | none => rfl
        | some o =>
          rcases st.gn d o q with z | z | ⟨z, z'⟩
          · have z : S.G d = some o := z; rw [hgd] at z; cases z
          · rw [upd_same] at z; cases z
          · rw [hlab] at z'; cases z'
      have rk' := rk.step' st.g st.al st.le
      have r2 := (rel'.updU (o := .dK kvs) hl' hg').setOw (i := i) (c := .dK l) h2 hl' hg' rfl ⟨kvs, upd_same, rk'.keys, rk'.vals⟩
      rw [set_self h1] at r2
      have hneq : ∀ {a : Addr}, S.lab a = none → a ≠ d := fun {a} ha z => by subst z; rw [h3] at ha; cases ha
      refine ⟨hd', p (S'.cl i d) b _ ⟨st.g, st.le, st.al, fun a o ha la => ?_, fun a o ga => ?_, fun a ha => ?_⟩ r2 ?_⟩
      · have lu : (S.un i).lab a = none := by show (if S.lab a = some (.slot i) then none else S.lab a) = none; rw [la]; rfl
        obtain ⟨z1, z2⟩ := st.fr a o (by rw [upd_ne (hneq la)]; exact ha) lu
        refine ⟨by rw [upd_ne (hneq la)]; exact z1, ?_⟩
        show (if a = d then some (Lab.slot i) else if S'.lab a = some (.slot i) then none else S'.lab a) = none
        rw [if_neg (hneq la), z2]; rfl
      · rcases st.gn a o ga with z | z | ⟨z, z'⟩
        · exact .inl z
        · exact .inr (.inl (upd_none.mp z).2)
        · exact .inr (.inr ⟨z, un_of z'⟩)
      · exact (upd_none.mp (st.dom a (upd_none.mp ha).2)).2
      · cases a with
        | val x => exact it
        | slot j => exact it
        | new c' =>
          obtain ⟨pp, rfl, i1, i2, i3, i4, i5⟩ := it
          obtain ⟨i0, i1⟩ := upd_none.mp i1
          refine ⟨pp, rfl, i1, ?_, i3, i4, i5.mono (H' := upd H' d (.dK kvs)) (fun _ _ e => e) (fun _ _ => rfl) (Nat.le_refl _) (fun o e => by rw [upd_ne i0]; exact e)⟩
          show (if pp = d then some (Lab.slot i) else if S'.lab pp = some (.slot i) then none else S'.lab pp) = none
          rw [if_neg i0, i2]; rfl
  · exact False.elim p
end
end Y

namespace Y
open PySem L2 Z
/-! ## min of a list of pairs of numbers -/
abbrev pyP (p : Int × Int) : PyData := .tuple [.int p.1, .int p.2]
def ltP (x y : Int × Int) : Bool := decide (x.1 < y.1 ∨ (x.1 = y.1 ∧ x.2 < y.2))
def minP (p : Int × Int) (ps : List (Int × Int)) : Int × Int := ps.foldl (fun a y => if ltP y a = true then y else a) p
theorem dlt (x y : Int × Int) : PySem.W.dataLt (pyP x) (pyP y) = ltP x y := by
  obtain ⟨a, b⟩ := x
  obtain ⟨c, d⟩ := y
  show (decide ((1 : Int) < 1) || (!decide ((1 : Int) < 1) && (decide (a < c) || (!decide (c < a) && (decide ((1 : Int) < 1) || (!decide ((1 : Int) < 1) && (decide (b < d) || (!decide (d < b) && (decide ((0 : Int) < 0) || (!decide ((0 : Int) < 0) && false)))))))))) = decide (a < c ∨ (a = c ∧ b < d))
  by_cases h1 : a < c
  · simp [h1]
  · by_cases h2 : c < a
    · have : ¬ a = c := by omega
      simp [h1, h2, this]
    · have : a = c := by omega
      subst this
      by_cases h3 : b < d
      · simp [h3]
      · simp [h3]
theorem minD_P : ∀ (ps : List (Int × Int)) (p : Int × Int), PySem.W.minD (pyP p) (ps.map pyP) = pyP (minP p ps)
  | [], p => rfl
  | y :: ps, p => by
    show PySem.W.minD (if PySem.W.dataLt (pyP y) (pyP p) = true then pyP y else pyP p) (ps.map pyP) = pyP (minP (if ltP y p = true then y else p) ps)
    rw [dlt]
    by_cases h : ltP y p = true
    · rw [if_pos h, if_pos h]; exact minD_P ps y
    · rw [if_neg h, if_neg h]; exact minD_P ps p
def rMinP (K : PySem.W.Frag) : List V → Hp → VK → Prop := fun xs H Q => ∃ (q : Addr) (us : List V) (p : Int × Int) (ps : List (Int × Int)), xs = [.ref q] ∧ SqL K H q us ∧ DpAll K H us ((p :: ps).map pyP) ∧ ∀ (i : Nat) (u : V), us[i]? = some u → (p :: ps)[i]? = some (minP p ps) → Q u H
section
variable {X : Cx}
theorem depth_P : ∀ ps : List (Int × Int), PyData.depthAll (ps.map pyP) ≤ 5
  | [] => by show 0 ≤ 5; omega
  | p :: ps => by
    have := depth_P ps
    show max (PyData.depth (pyP p)) (PyData.depthAll (ps.map pyP)) ≤ 5
    have h : PyData.depth (pyP p) ≤ 5 := by show max (0 + 0) (max 0 0) + 1 ≤ 5 <;> decide
    omega
theorem cr_minP' (hc : X.calm = true) (hu : X.A.units + 70 < cLine) : CallR X (.builtin "min") (rMinP X.K) := by
  intro pins s σ H vs us Q I r h
  obtain ⟨a, xs, p, ps, rfl, hs, hd, q⟩ := h
  obtain ⟨its, rv, hl, hz⟩ := I.list hs
  rw [Vals.ref1 r]
  obtain ⟨as, hr⟩ := Dp.readsAll I _ _ _ hd rv
  have hr' : ReadsAll s.heap its.toArray.toList (pyP p :: ps.map pyP) as := by simpa using hr
  refine PySem.W.min_list_data (I.ok.hd hc) hl.isList hr' ⟨fun x hx y hy => ?_, fun x hx => ?_⟩ ?_ fun i v h' tk bs hv hR hk => ?_
  · obtain ⟨p1, _, rfl⟩ := List.mem_map.mp (show x ∈ (p :: ps).map pyP from hx)
    obtain ⟨p2, _, rfl⟩ := List.mem_map.mp (show y ∈ (p :: ps).map pyP from hy)
    rfl
  · obtain ⟨p1, _, rfl⟩ := List.mem_map.mp (show x ∈ (p :: ps).map pyP from hx)
    intro z; cases z
  · have := depth_P (p :: ps)
    have e : PyData.depthAll (pyP p :: ps.map pyP) = PyData.depthAll ((p :: ps).map pyP) := rfl
    omega
  · rw [minD_P] at hR
    have hv' : its[i]? = some v := by simpa using hv
    obtain ⟨bs', r1, hlt, _, _⟩ := PySem.W.readsAll_at hr i v hv'
    have e := (Reads.unique (PyProof.Rows.Reads.keeps hk r1) _ _ hR).1
    have hlt' : i < (p :: ps).length := by rw [List.length_map] at hlt; exact hlt
    have ep : ((p :: ps).map pyP).getD i .none = pyP (p :: ps)[i] := by
      rw [List.getD_eq_getElem?_getD, List.getElem?_map, List.getElem?_eq_getElem hlt']; rfl
    rw [ep] at e
    have e2 : (p :: ps)[i] = minP p ps := by
      injection e with e
      injection e with e3 e4
      injection e3 with e3
      injection e4 with e4 _
      injection e4 with e4
      exact Prod.ext e3 e4
    have hxl : i < xs.length := by have := rv.length; have := (List.getElem?_eq_some_iff.mp hv').1; omega
    obtain ⟨u, hu1, hu2⟩ := rv.get (List.getElem?_eq_getElem hxl)
    rw [hv'] at hu1; cases hu1
    exact ⟨_, H, I.kept (t' := tk) hk, hu2, q i _ (List.getElem?_eq_getElem hxl) (by rw [List.getElem?_eq_getElem hlt', e2])⟩
theorem cr_minP {K : PySem.W.Frag} (hK : X.K = K) (hc : X.calm = true) (hu : X.A.units + 70 < cLine) : CallR X (.builtin "min") (rMinP K) := by subst hK; exact cr_minP' hc hu
end
section
variable {K : PySem.W.Frag} {ct : Ct} {H0 : Hp} {W : WX}
def tP (p : Int × Int) : D := .tup [.int p.1, .int p.2]
def pairsD : List D → Option (List (Int × Int))
  | [] => some []
  | .tup [.int a, .int b] :: l => (pairsD l).map ((a, b) :: ·)
  | _ :: _ => none
theorem pairsD_eq : ∀ {l : List D} {ps : List (Int × Int)}, pairsD l = some ps → l = ps.map tP
  | [], _, e => by cases e; rfl
  | d :: l, ps, e => by
    unfold pairsD at e
    split at e
    · rename_i h; cases h
    · rename_i a b l' h
      cases h
      obtain ⟨qs, q, rfl⟩ := Option.map_eq_some_iff.mp e
      rw [pairsD_eq q]; rfl
    · cases e
theorem pairsD_map : ∀ ps : List (Int × Int), pairsD (ps.map tP) = some ps
  | [] => rfl
  | p :: ps => by show (pairsD (ps.map tP)).map (p :: ·) = _; rw [pairsD_map ps]; rfl
def fMinP (s : Stt) (as : List AI) : Ro AI := match as with
  | [a] => match (viewL s a).bind pairsD with
    | some (p :: ps) => .ok (.val (tP (minP p ps))) s
    | _ => .no
  | _ => .no
theorem pyL_P : ∀ ps : List (Int × Int), D.pyL (ps.map tP) = some (ps.map pyP)
  | [] => rfl
  | p :: ps => by show ((tP p).py).bind (fun x => (D.pyL (ps.map tP)).map (x :: ·)) = _; rw [pyL_P ps]; rfl
theorem jb_minP : JB K ct H0 (rMinP K) fMinP := fun W S s σ H Hs vs as Q rel ia p => by
  unfold fMinP at p
  split at p
  · rename_i a
    obtain ⟨v, rfl, i⟩ := as1 ia
    split at p
    · rename_i p0 ps e
      obtain ⟨l, e1, e2⟩ := Option.bind_eq_some_iff.mp e
      obtain ⟨q, us, rfl, k1, k2⟩ := viewL_ok rel i e1
      have el := pairsD_eq e2
      subst el
      have kH := uDpL (rpL_dp (RpL.mono rel.sub (fun _ _ => rfl) (Nat.le_refl _) k2) (pyL_P (p0 :: ps)))
      refine ⟨q, us, p0, ps, rfl, k1, kH, fun j u hu hj => ?_⟩
      obtain ⟨d, hd1, hd2⟩ := k2.get' hu
      rw [List.getElem?_map, hj] at hd1
      cases hd1
      exact p.val rel hd2
    · exact False.elim p
  · exact False.elim p
variable {s : Stt} {X : Exn → Stt → Prop} {QA : AI → Stt → Prop}
theorem w_minP {a : AI} {p : Int × Int} {ps : List (Int × Int)} (e : viewL s a = some ((p :: ps).map tP)) (h : QA (.val (tP (minP p ps))) s) : Wo QA X (fMinP s [a]) := by
  unfold fMinP; simp only []; rw [e, Option.bind_some, pairsD_map]; exact h
/-! ## dict(list of pairs) -/
def rDictY (K : PySem.W.Frag) : List V → Hp → VK → Prop := fun xs H Q => ∃ (a : Addr) (ps : List Addr) (kvs : List (Key × V)), xs = [.ref a] ∧ SqL K H a (ps.map V.ref) ∧ Paired (fun p kv => SqT K H p [kV kv.1, kv.2]) ps kvs ∧ ∀ p, H p = none → Q (.ref p) (upd H p (.dK (mergeK [] kvs)))
theorem call_dictY {X : Cx} {K : PySem.W.Frag} (hK : X.K = K) (hc : X.calm = true) : CallR X (.type "dict") (rDictY K) := by subst hK; exact call_dictP hc
def kPair : D → Option (Key × D)
  | .tup [.int i, x] => some (.inl i, x)
  | .tup [.str i, x] => some (.inr i, x)
  | _ => none
def kPairs : List D → Option (List (Key × D))
  | [] => some []
  | d :: l => (kPair d).bind fun p => (kPairs l).map (p :: ·)
def mgD (l : List (Key × D)) : List (Key × D) := l.foldl (fun a p => pu a p.1 p.2) []
def fDict (s : Stt) (as : List AI) : Ro AI := match as with
  | [a] => match (viewL s a).bind kPairs with
    | some l => .ok (.new (.dK (mgD l))) s
    | none => .no
  | _ => .no
theorem kPairs_ok {G : Hp} {α : Nat → Addr} {n : Nat} {H : Hp} (hs : ∀ a vs, G a = some (.tup vs) → H a = some (.tup vs)) : ∀ {ds : List D} {vs : List V} {l : List (Key × D)}, RpL K G α n vs ds → kPairs ds = some l → ∃ ps kvs, vs = ps.map V.ref ∧ Paired (fun p (kv : Key × V) => SqT K H p [kV kv.1, kv.2]) ps kvs ∧ RpK K G α n kvs l
  | [], _, _, .nil, e => by cases e; exact ⟨[], [], rfl, .nil, .nil⟩
  | d :: ds, _, l, .cons h r, e => by
    obtain ⟨kd, e1, e2⟩ := Option.bind_eq_some_iff.mp (show ((kPair d).bind fun p => (kPairs ds).map (p :: ·)) = some l from e)
    obtain ⟨l', e3, rfl⟩ := Option.map_eq_some_iff.mp e2
    obtain ⟨ps, kvs, rfl, h2, h3⟩ := kPairs_ok hs r e3
    unfold kPair at e1
    split at e1
    · rename_i i x
      cases e1
      cases h with
      | tup g1 g2 =>
        cases g2 with
        | cons g3 g4 => cases g4 with
          | cons g5 g6 =>
            cases g6
            cases rp_int g3
            exact ⟨_ :: ps, (.inl i, _) :: kvs, rfl, .cons (.of (hs _ _ g1)) h2, .cons g5 h3⟩
    · rename_i i x
      cases e1
      cases h with
      | tup g1 g2 =>
        cases g2 with
        | cons g3 g4 => cases g4 with
          | cons g5 g6 =>
            cases g6
            cases rp_str g3
            exact ⟨_ :: ps, (.inr i, _) :: kvs, rfl, .cons (.of (hs _ _ g1)) h2, .cons g5 h3⟩
    · cases e1
theorem mg_ok {G : Hp} {α : Nat → Addr} {n : Nat} : ∀ {kvs : List (Key × V)} {l : List (Key × D)} {acc : List (Key × V)} {a : List (Key × D)}, RpK K G α n kvs l → RpK K G α n acc a → RpK K G α n (mergeK acc kvs) (l.foldl (fun a p => pu a p.1 p.2) a)
  | _, _, _, _, .nil, h => h
  | _, _, acc, a, .cons (k := k) (v := v) (d := d) (kvs := kvs) (l := l) x r, h => by
    show RpK K G α n (mergeK (putK acc k v) kvs) (l.foldl (fun a p => pu a p.1 p.2) (pu a k d))
    exact mg_ok r (h.put x)
theorem jb_dict : JB K ct H0 (rDictY K) fDict := fun W S s σ H Hs vs as Q rel ia p => by
  unfold fDict at p
  split at p
  · rename_i a
    obtain ⟨v, rfl, i⟩ := as1 ia
    split at p
    · rename_i l e
      obtain ⟨l0, e1, e2⟩ := Option.bind_eq_some_iff.mp e
      obtain ⟨q, us, rfl, k1, k2⟩ := viewL_ok rel i e1
      obtain ⟨ps, kvs, rfl, h2, h3⟩ := kPairs_ok (H := H) (fun a vs h => uP' (rel.sub _ _ h)) k2 e2
      refine ⟨q, ps, kvs, rfl, k1, h2, fun r hr => ?_⟩
      have h4 := mg_ok h3 (.nil (κ := Key))
      exact p.newC rel hr rfl ⟨_, upd_same, h4.keys, h4.vals⟩
    · exact False.elim p
  · exact False.elim p
theorem w_dict {a : AI} {l : List D} {kl : List (Key × D)} (e : viewL s a = some l) (e2 : kPairs l = some kl) (h : QA (.new (.dK (mgD kl))) s) : Wo QA X (fDict s [a]) := by
  unfold fDict; simp only []; rw [e, Option.bind_some, e2]; exact h
/-! ## steps with dicts -/
theorem w_dnew (h : QA (.new (.dK [])) s) : Wo QA X (mDNew s) := h
theorem w_lcD1 {kd : KD} {i : Nat} {ws : List Nat} {g : Tg} {c : Mo Bool} {e : Mo AI} {l : List (Key × D)} (en : entAt s i = some (.fz (.dK l))) (h : ∃ l2 s2, lcN ws g c (mV e) none (dIt kd l) [] (wipeS ws s) = .ok l2 s2 ∧ QA (.new (.lst l2)) ⟨Y.rest s.env s2.env ws, s2.M⟩) : Wo QA X (mLcD kd i ws g c e s) := by
  unfold mLcD; rw [en]
  exact w_lc (show Wo _ X (Ro.ok (⟨dIt kd l, none⟩ : Im) s) from h)
theorem w_lcD2 {kd : KD} {i : Nat} {ws : List Nat} {g : Tg} {c : Mo Bool} {e : Mo AI} {l : List (Key × D)} (en : entAt s i = some (.ow (.dK l))) (h : ∃ l2 s2, lcN ws g c (mV e) none (dIt kd l) [] (wipeS ws ⟨s.env.set i none, s.M⟩) = .ok l2 s2 ∧ QA (.new (.lst l2)) ⟨(Y.rest (s.env.set i none) s2.env ws).set i (some (.ow (.dK l))), s2.M⟩) : Wo QA X (mLcD kd i ws g c e s) := by
  unfold mLcD; rw [en]
  refine w_bind (w_lc (QA := fun a s1 => Wo QA X (.ok a ⟨s1.env.set i (some (.ow (.dK l))), s1.M⟩)) (show Wo _ X (Ro.ok (⟨dIt kd l, none⟩ : Im) _) from h))
theorem w_pop {m1 m2 : Mo AI} (h : Wo (fun a s1 => (∃ l, viewD s1 a = some l) ∧ Wo (fun i s2 => ∃ l k d, getC s2 a = some (.dK l) ∧ keyOf i = some k ∧ vl l k = some d ∧ QA (.val d) (setC s2 a (.dK (dr l k)))) X (mV m2 s1)) X (m1 s)) : Wo QA X (mPop m1 m2 s) := w_bind (w_mono h fun a s1 ⟨⟨l, e⟩, h⟩ => by
  show Wo QA X (match viewD s1 a with | some _ => _ | none => _)
  rw [e]
  exact w_bind (w_mono h fun i s2 ⟨l, k, d, e1, e2, e3, h⟩ => by
    show Wo QA X (fPop s2 a i)
    unfold fPop
    rw [e1]; simp only []; rw [e2, Option.bind_some, e3]; exact h))
theorem so_setK {N : Stt → Prop} {a : AI} {i d : D} {l : List (Key × D)} {k : Key} (e : getC s a = some (.dK l)) (e2 : keyOf i = some k) (hz : l.length < sizeLine) (h : N (setC s a (.dK (pu l k d)))) : So N (setIt a i d s) := by
  unfold setIt; rw [e]; simp only []; rw [e2, Option.bind_some, if_pos hz]; exact h
theorem w_inD {b : AI} {i : Int} {l : List (Key × D)} (e : viewD s b = some l) (h : QA (.val (.bl (vl l (.inl i)).isSome)) s) : Wo QA X (fIn s (.val (.int i)) b) := by
  unfold fIn
  have : inOf s (.val (.int i)) b = some (vl l (.inl i)).isSome := by
    unfold inOf
    split
    · rename_i h1 h2; cases h2
    · rw [e]
  rw [this]; exact h
theorem w_ninD {b : AI} {i : Int} {l : List (Key × D)} (e : viewD s b = some l) (h : QA (.val (.bl (!(vl l (.inl i)).isSome))) s) : Wo QA X (fNin s (.val (.int i)) b) := by
  unfold fNin
  have : inOf s (.val (.int i)) b = some (vl l (.inl i)).isSome := by
    unfold inOf
    split
    · rename_i h1 h2; cases h2
    · rw [e]
  rw [this]; exact h
/-- a comprehension with a test -/
theorem w_lcFil {ws : List Nat} {g : Tg} {c : Mo Bool} {e : Mo D} {xs : List D} {P : List D → Stt → Prop} (p : D → Bool) (f : D → D) (hz : xs.length ≤ sizeLine) (h : ∀ x ∈ xs, So (fun s1 => Wo (fun b s2 => b = p x ∧ if b = true then Wo (fun d s3 => d = f x ∧ wipeS ws s3 = s) Xf (e s2) else wipeS ws s2 = s) Xf (c s1)) (g x s)) (k : P ((xs.filter p).map f) s) : ∃ l s2, lcN ws g c e none xs [] s = .ok l s2 ∧ P l s2 := by
  refine ⟨(xs.filter p).map f, s, ?_, k⟩
  have gen : ∀ (ys acc : List D), acc.length + ys.length ≤ sizeLine → (∀ y ∈ ys, y ∈ xs) → lcN ws g c e none ys acc s = .ok (acc ++ (ys.filter p).map f) s := by
    intro ys
    induction ys with
    | nil => intro acc _ _; unfold lcN; rw [if_pos chk_none]; simp
    | cons y ys ih =>
      intro acc hl hy
      have hh := h y (hy y (List.mem_cons_self ..))
      unfold lcN
      rw [if_pos chk_none]
      cases q : g y s with
      | none => rw [q] at hh; exact False.elim hh
      | some s1 =>
        rw [q] at hh
        simp only []
        have hh : Wo _ Xf (c s1) := hh
        cases q2 : c s1 with
        | no => rw [q2] at hh; exact False.elim hh
        | er _ _ => rw [q2] at hh; exact False.elim hh
        | ok b s2 =>
          rw [q2] at hh
          obtain ⟨hb, hh⟩ := hh
          simp only []
          rw [List.length_cons] at hl
          by_cases hbt : b = true
          · rw [if_pos hbt] at hh ⊢
            cases q3 : e s2 with
            | no => rw [q3] at hh; exact False.elim hh
            | er _ _ => rw [q3] at hh; exact False.elim hh
            | ok d s3 =>
              rw [q3] at hh
              obtain ⟨rfl, hw⟩ := hh
              simp only []
              rw [if_pos (by omega), hw, ih _ (by rw [List.length_append, List.length_singleton]; omega) (fun z hz => hy z (List.mem_cons_of_mem _ hz))]
              rw [List.filter_cons, if_pos (by rw [← hb]; exact hbt), List.map_cons, List.append_assoc]; rfl
          · rw [if_neg hbt] at hh ⊢
            rw [hh, ih _ (by omega) (fun z hz => hy z (List.mem_cons_of_mem _ hz))]
            rw [List.filter_cons, if_neg (by rw [← hb]; exact hbt)]
  simpa using gen xs [] (by simpa using hz) (fun _ h => h)
end
section
variable {K : PySem.W.Frag} {ct : Ct} {H0 : Hp} {W : WX}
/-! ## a, b = x, y -/
def mPar (i j : Nat) (m : Mo (List D)) : Ms := fun s => (m s).toS fun ds s1 => match ds with
  | [x, y] => .nx ⟨(s1.env.set i (some (.fz x))).set j (some (.fz y)), s1.M⟩
  | _ => .no
theorem sv_par {i j : Nat} {ta : TA} {m : Mo (List D)} (h : EvL K ct H0 W ta m) : Sv K ct H0 W (tPar i j ta) (mPar i j m) := fun S s σ H Dn rel p =>
  h S s σ H _ rel (PstS.bind p fun S1 s1 H1 vs ds st1 rel1 i1 p1 => by
    split at p1
    · rename_i x y
      obtain ⟨u, v, rfl, r1, r2⟩ := RpL.two i1
      refine ⟨u, v, rfl, p1 ((S1.un i).un j) _ H1 ((st1.trans .un).trans .un) ?_⟩
      exact (rel1.setFz (i := i) r1).setFz (i := j) r2
    · exact False.elim p1)
variable {s : Stt} {N : Stt → Prop} {O : Rs → Prop}
theorem w_par {i j : Nat} {m : Mo (List D)} (h : Wo (fun ds s1 => ∃ x y, ds = [x, y] ∧ N ⟨(s1.env.set i (some (.fz x))).set j (some (.fz y)), s1.M⟩) (fun x s => O (.er x s)) (m s)) : Ws N O (mPar i j m s) := w_toS (w_mono h fun ds s1 ⟨x, y, e, h⟩ => by subst e; exact h)
end
end Y

namespace Y
open PySem L2 Z
/-! # own objects: tracked; what is stored in a field is tracked, too, where it is new -/
def putD (f : Str) (d : D) : List (Str × D) → List (Str × D)
  | [] => [(f, d)]
  | (g, x) :: r => if g = f then (g, d) :: r else (g, x) :: putD f d r
section
variable {K : PySem.W.Frag} {ct : Ct} {H0 : Hp} {W : WX} {S : Sh} {s : Stt} {σ : St} {H : Hp}
theorem put_ok {G : Hp} {α : Nat → Addr} {n : Nat} {f : Str} {v : V} {d : D} (h : Rp K G α n v d) : ∀ {fvs : List (Str × V)} {fs : List (Str × D)}, fvs.map Prod.fst = fs.map Prod.fst → RpL K G α n (fvs.map Prod.snd) (fs.map Prod.snd) → (putF f v fvs).map Prod.fst = (putD f d fs).map Prod.fst ∧ RpL K G α n ((putF f v fvs).map Prod.snd) ((putD f d fs).map Prod.snd)
  | [], [], _, _ => ⟨rfl, .cons h .nil⟩
  | [], _ :: _, e, _ => by simp at e
  | _ :: _, [], e, _ => by simp at e
  | (g, x) :: fvs, (g', y) :: fs, e, r => by
    rw [List.map_cons, List.map_cons] at e r
    obtain ⟨e1, e2⟩ := List.cons.inj e
    have e1 : g = g' := e1
    subst e1
    cases r with
    | cons r1 r2 =>
      unfold putF putD
      by_cases q : g = f
      · rw [if_pos q, if_pos q]
        exact ⟨by rw [List.map_cons, List.map_cons, e2], .cons h r2⟩
      · rw [if_neg q, if_neg q]
        obtain ⟨k1, k2⟩ := put_ok h e2 r2
        exact ⟨by rw [List.map_cons, List.map_cons, k1], .cons r1 k2⟩
theorem lookup_no {f : Str} : ∀ {fvs : List (Str × V)} {fs : List (Str × D)}, fvs.map Prod.fst = fs.map Prod.fst → fs.lookup f = none → fvs.lookup f = none
  | [], [], _, _ => rfl
  | [], _ :: _, e, _ => by simp at e
  | _ :: _, [], e, _ => by simp at e
  | (g, x) :: fvs, (g', y) :: fs, e, h => by
    rw [List.map_cons, List.map_cons] at e
    obtain ⟨e1, e2⟩ := List.cons.inj e
    have e1 : g = g' := e1
    subst e1
    rw [List.lookup_cons] at h ⊢
    cases q : (f == g) with
    | true => rw [q] at h; cases h
    | false => rw [q] at h; exact lookup_no e2 h
/-- to a value; a new thing is tracked -/
def toK : AI → Mo D := fun a s => match a with
  | .new c => .ok (.cid s.M.length) ⟨s.env, s.M ++ [c]⟩
  | a => toV a s
def mK (m : Mo AI) : Mo D := fun s => (m s).bind toK
theorem ek_of {t : TE} {m : Mo AI} (h : Ei K ct H0 W t m) : Ev K ct H0 W t (mK m) := fun S s σ H Q rel p => by
  unfold mK at p
  cases q : m s with
  | no => rw [q] at p; exact h S s σ H Q rel (by rw [q]; exact p)
  | er x s' => rw [q] at p; exact h S s σ H Q rel (by rw [q]; exact p)
  | ok a s' =>
    rw [q] at p
    cases a with
    | val d => exact ev_of h S s σ H Q rel (by unfold mV; rw [q]; exact p)
    | slot i => exact ev_of h S s σ H Q rel (by unfold mV; rw [q]; exact p)
    | new c =>
      refine h S s σ H Q rel (by
        rw [q]
        intro S' v H' st rel' it
        obtain ⟨pp, rfl, h1, h2, h3, h4, h5⟩ := it
        have rt := rel'.track h2 h3 h5
        have hlen : (s'.M ++ [c]).length = s'.M.length + 1 := by simp
        have p : ∀ S'' b H'', Stp S s.M.length H S'' (s'.M ++ [c]).length H'' → Rel K ct H0 S'' ⟨s'.env, s'.M ++ [c]⟩ σ H'' → RV K H S'' ⟨s'.env, s'.M ++ [c]⟩ σ H'' b (.cid s'.M.length) → Q b H'' := p
        refine p (S'.tr s'.M.length pp) _ H' (by rw [hlen]; exact st.track h1) rt ?_
        show Rp K _ _ (s'.M ++ [c]).length _ _
        rw [hlen]; exact tr_cid)
theorem okc1 {P : Nat → Prop} {i : Nat} (h : P i) : ∀ c, (c == i) = true → P c := fun c e => by rw [beq_iff_eq.mp e]; exact h
theorem okc2 {P : Nat → Prop} {i j : Nat} (h : P i) (h2 : P j) : ∀ c, (c == i || c == j) = true → P c := fun c e => by
  rw [Bool.or_eq_true] at e
  rcases e with e | e
  · rw [beq_iff_eq.mp e]; exact h
  · rw [beq_iff_eq.mp e]; exact h2
/-! ## fields -/
def objAt (s : Stt) (a : AI) : Option (Nat × Nat × List (Str × D)) := match a with
  | .val (.cid k) => match s.M[k]? with
    | some (.obj c fs) => some (k, c, fs)
    | _ => none
  | _ => none
theorem objAt_ok {Hs : Hp} {v : V} {a : AI} {k c : Nat} {fs : List (Str × D)} (rel : Rel K ct H0 S s σ H) (i : ItOk K ct Hs S s σ H v a) (e : objAt s a = some (k, c, fs)) : a = .val (.cid k) ∧ s.M[k]? = some (.obj c fs) ∧ v = .ref (S.α k) ∧ ∃ dx fvs, H (S.α k) = some (.ins (ct c) dx fvs) ∧ fvs.map Prod.fst = fs.map Prod.fst ∧ RpL K S.G S.α s.M.length (fvs.map Prod.snd) (fs.map Prod.snd) := by
  unfold objAt at e
  split at e
  · rename_i k'
    split at e
    · rename_i c' fs' em
      cases e
      have i : Rp K S.G S.α s.M.length v (.cid k) := i
      cases i
      exact ⟨rfl, em, rfl, (rel.ids k _ em).2⟩
    · cases e
  · cases e
def mFld (ok : Nat → Bool) (f : Str) (m : Mo AI) : Mo AI := fun s => (m s).bind fun a s1 => match objAt s1 a with
  | some (_, c, fs) => if ok c = true then (match fs.lookup f with | some d => .ok (.val d) s1 | none => .no) else .no
  | none => .no
theorem ei_fld {ok : Nat → Bool} {f : Str} {ta : TE} {m : Mo AI} (hc : ∀ c, ok c = true → Cls K (ct c) ∧ NoAttr K (ct c) f) (h : Ei K ct H0 W ta m) : Ei K ct H0 W (tFld K ta f) (mFld ok f m) := fun S s σ H Q rel p =>
  h S s σ H _ rel (Pst.bind bI p fun S1 s1 H1 x a st1 rel1 i1 p1 => by
    split at p1
    · rename_i k c fs e
      split at p1
      · rename_i hk
        split at p1
        · rename_i d el
          obtain ⟨rfl, em, rfl, dx, fvs, h1, h2, h3⟩ := objAt_ok rel1 i1 e
          obtain ⟨v, l1, l2⟩ := lookup_rp h2 h3 el
          exact ⟨_, _, dx, fvs, v, rfl, h1, (hc c hk).1, (hc c hk).2, l1, p1 S1 v H1 .refl rel1 l2⟩
        · exact False.elim p1
      · exact False.elim p1
    · exact False.elim p1)
def mFldS (ok : Nat → Bool) (f : Str) (mo mv : Mo AI) : Ms := fun s => (mK mv s).toS fun d s1 => (mo s1).toS fun a s2 => match objAt s2 a with
  | some (k, c, fs) => if ok c = true ∧ fs.length < 1000 then .nx ⟨s2.env, s2.M.set k (.obj c (putD f d fs))⟩ else .no
  | none => .no
theorem sv_fld {ok : Nat → Bool} {f : Str} {ta tv : TE} {mo mv : Mo AI} (hc : ∀ c, ok c = true → Cls K (ct c) ∧ NoAttr K (ct c) f) (ho : Ei K ct H0 W ta mo) (hv : Ei K ct H0 W tv mv) : Sv K ct H0 W (sFld K ta tv f) (mFldS ok f mo mv) := fun S s σ H Dn rel p =>
  ek_of hv S s σ H _ rel (PstS.bind p fun S1 s1 H1 y d st1 rel1 r1 p1 => ho S1 s1 σ H1 _ rel1 (PstS.bind (PstS.from p1 st1) fun S2 s2 H2 x a st2 rel2 i2 p2 => by
    split at p2
    · rename_i k c fs e
      split at p2
      · rename_i hk
        obtain ⟨rfl, em, rfl, dx, fvs, h1, h2, h3⟩ := objAt_ok rel2 i2 e
        have r2 : Rp K S2.G S2.α s2.M.length y d := Rp.step st2 r1
        obtain ⟨k1, k2⟩ := put_ok (f := f) r2 h2 h3
        have hlen : fvs.length = fs.length := by have := congrArg List.length h2; simpa using this
        refine ⟨_, _, dx, fvs, rfl, h1, (hc c hk.1).1, (hc c hk.1).2, by rw [hlen]; exact hk.2, ?_⟩
        obtain ⟨pp, ep, _, g⟩ := mut_ok (a := .val (.cid k)) (c := .obj c fs) rel2 i2 em
        have ep : S2.α k = pp := by injection ep
        subst ep
        obtain ⟨g1, g2⟩ := g (.ins (ct c) dx (putF f y fvs)) (.obj c (putD f d fs)) (fun z => z) ⟨dx, _, upd_same, k1, k2⟩
        exact p2 S2 σ _ (st2.trans g2) g1
      · exact False.elim p2
    · exact False.elim p2))
/-- o.f += e -/
def mFldA (ok : Nat → Bool) (f : Str) (g : Int → Int → Int) (mo mv : Mo AI) : Ms := fun s => (mo s).toS fun a s1 => match objAt s1 a with
  | some (k, c, fs) => if ok c = true then (match fs.lookup f with
    | some (.int i) => (mv s1).toS fun b s2 => match b with
      | .val (.int j) => match s2.M[k]? with
        | some (.obj c' fs') => if c' = c ∧ fs'.length < 1000 then .nx ⟨s2.env, s2.M.set k (.obj c (putD f (.int (g i j)) fs'))⟩ else .no
        | _ => .no
      | _ => .no
    | _ => .no) else .no
  | none => .no
theorem sv_fldA {ok : Nat → Bool} {f : Str} {g : Int → Int → Int} {ta tv : TE} {mo mv : Mo AI} (hc : ∀ c, ok c = true → Cls K (ct c) ∧ NoAttr K (ct c) f) (ho : Ei K ct H0 W ta mo) (hv : Ei K ct H0 W tv mv) : Sv K ct H0 W (sFldAug K ta tv (rI0 fun i j => .int (g i j)) f) (mFldA ok f g mo mv) := fun S s σ H Dn rel p =>
  ho S s σ H _ rel (PstS.bind p fun S1 s1 H1 x a st1 rel1 i1 p1 => by
    split at p1
    · rename_i k c fs e
      split at p1
      · rename_i hk
        split at p1
        · rename_i i el
          obtain ⟨rfl, em, rfl, dx, fvs, h1, h2, h3⟩ := objAt_ok rel1 i1 e
          obtain ⟨v, l1, l2⟩ := lookup_rp h2 h3 el
          cases rp_int l2
          refine ⟨_, _, dx, fvs, _, rfl, h1, (hc c hk).1, (hc c hk).2, l1, hv S1 s1 σ H1 _ rel1 (PstS.bind (PstS.from p1 st1) fun S2 s2 H2 y b st2 rel2 i2 p2 => ?_)⟩
          split at p2
          · rename_i j
            cases rp_int i2
            split at p2
            · rename_i c' fs' em'
              split at p2
              · rename_i hk'
                obtain ⟨rfl, hz⟩ := hk'
                have ea : S2.α k = S1.α k := st2.al k (List.getElem?_eq_some_iff.mp em).1
                have i2' : ItOk K ct H2 S2 s2 σ H2 (.ref (S2.α k)) (.val (.cid k)) := Rp.cid (List.getElem?_eq_some_iff.mp em').1
                obtain ⟨dx', fvs', h1', h2', h3'⟩ := (rel2.ids k _ em').2
                have hlen : fvs'.length = fs'.length := by have := congrArg List.length h2'; simpa using this
                obtain ⟨k1, k2⟩ := put_ok (f := f) (Rp.int (K := K) (G := S2.G) (α := S2.α) (n := s2.M.length) (g i j)) h2' h3'
                refine ⟨i, j, rfl, rfl, dx', fvs', by rw [← ea]; exact h1', by rw [hlen]; exact hz, ?_⟩
                rw [← ea]
                obtain ⟨pp, ep, _, gg⟩ := mut_ok (a := .val (.cid k)) (c := .obj c' fs') rel2 i2' em'
                have ep : S2.α k = pp := by injection ep
                subst ep
                obtain ⟨g1, g2⟩ := gg (.ins (ct c') dx' (putF f (.int (g i j)) fvs')) (.obj c' (putD f (.int (g i j)) fs')) (fun z => z) ⟨dx', _, upd_same, k1, k2⟩
                exact p2 S2 σ _ (st2.trans g2) g1
              · exact False.elim p2
            · exact False.elim p2
          · exact False.elim p2
        · exact False.elim p1
      · exact False.elim p1
    · exact False.elim p1)
/-! ## methods -/
def mMethN (c : Nat) (nm : Str) (f : Mf) (mo : Mo AI) (ma : Mo (List D)) : Mo AI := fun s => (mo s).bind fun a s1 => match objAt s1 a with
  | some (k, c', fs) => if c' = c ∧ fs.lookup nm = none then ((ma s1).bind fun ds s2 => match f (.cid k :: ds) s2.M with
    | .ok a M' => .ok a ⟨s2.env, M'⟩
    | _ => .no) else .no
  | none => .no
def mMethS (c : Nat) (nm : Str) (f : Mf) (mo : Mo AI) (ma : Mo (List D)) : Mo AI := fun s => (mo s).bind fun a s1 => match objAt s1 a with
  | some (k, c', fs) => if c' = c ∧ fs.lookup nm = none then ((ma s1).bind fun ds s2 => match f (.cid k :: ds) s2.M with
    | .ok a M' => .ok a ⟨s2.env, M'⟩
    | .er x M' => .er x ⟨s2.env, M'⟩
    | .no => .no) else .no
  | none => .no
theorem self_rp {S1 S2 : Sh} {s1 s2 : Stt} {H1 H2 : Hp} {k : Nat} {c : Cn} (em : s1.M[k]? = some c) (st : Stp S1 s1.M.length H1 S2 s2.M.length H2) : Rp K S2.G S2.α s2.M.length (.ref (S1.α k)) (.cid k) := by
  have hk := (List.getElem?_eq_some_iff.mp em).1
  have e := st.al k hk
  rw [← e]
  exact .cid (Nat.lt_of_lt_of_le hk st.le)
theorem ei_methN {c : Nat} {nm : Str} {f : Mf} {E : XK} {ta : TE} {t : TA} {mo : Mo AI} {ma : Mo (List D)} (ho : Ei K ct H0 W ta mo) (ha : EvL K ct H0 W t ma) : Ei K ct H0 W (tMeth (ct c) nm (spM K ct f) [] E ta t) (mMethN c nm f mo ma) := fun S s σ H Q rel p =>
  ho S s σ H _ rel (Pst.bind bI p fun S1 s1 H1 x a st1 rel1 i1 p1 => by
    split at p1
    · rename_i k c' fs e
      split at p1
      · rename_i hk
        obtain ⟨rfl, hno⟩ := hk
        obtain ⟨rfl, em, rfl, dx, fvs, h1, h2, h3⟩ := objAt_ok rel1 i1 e
        refine ⟨_, dx, fvs, rfl, h1, lookup_no h2 hno, ha S1 s1 σ H1 _ rel1 (Pst.bind bI p1 fun S2 s2 H2 vs ds st2 rel2 i2 p2 => ?_)⟩
        refine ⟨S2.hide, s2.M, .cid k :: ds, rel2.hide, (.cons (show Rp K S2.G S2.α s2.M.length _ _ from self_rp em st2) (by rw [List.append_nil]; exact i2)), ?_⟩
        generalize hf : f (.cid k :: ds) s2.M = r at p2
        cases r with
        | no => exact False.elim p2
        | er x M' => exact False.elim p2
        | ok a M' => exact fpst_of rel2 (fun x M' e => by cases e) (fun a' M'' e S' v H' st rl it => by cases e; exact p2 S' v H' st rl it) (fun e => by cases e)
      · exact False.elim p1
    · exact False.elim p1)
theorem ei_methS {c : Nat} {nm : Str} {f : Mf} {ta : TE} {t : TA} {mo : Mo AI} {ma : Mo (List D)} (ho : Ei K ct H0 W ta mo) (ha : EvL K ct H0 W t ma) : Ei K ct H0 W (Z.tMethS (ct c) nm (spM K ct f) (WE W) ta t) (mMethS c nm f mo ma) := fun S s σ H Q rel p =>
  ho S s σ H _ rel (Pst.bind bI p fun S1 s1 H1 x a st1 rel1 i1 p1 => by
    split at p1
    · rename_i k c' fs e
      split at p1
      · rename_i hk
        obtain ⟨rfl, hno⟩ := hk
        obtain ⟨rfl, em, rfl, dx, fvs, h1, h2, h3⟩ := objAt_ok rel1 i1 e
        refine ⟨_, dx, fvs, rfl, h1, lookup_no h2 hno, ha S1 s1 σ H1 _ rel1 (Pst.bind bI p1 fun S2 s2 H2 vs ds st2 rel2 i2 p2 => ?_)⟩
        refine ⟨S2.hide, s2.M, .cid k :: ds, rel2.hide, (.cons (show Rp K S2.G S2.α s2.M.length _ _ from self_rp em st2) (by rw [List.append_nil]; exact i2)), ?_⟩
        generalize hf : f (.cid k :: ds) s2.M = r at p2
        cases r with
        | no => exact False.elim p2
        | er x M' => exact fpst_of rel2 (fun x' M'' e S' H' dd st rl xo => by cases e; exact p2 S' H' dd st rl xo) (fun a' M'' e => by cases e) (fun e => by cases e)
        | ok a M' => exact fpst_of rel2 (fun x M' e => by cases e) (fun a' M'' e S' v H' st rl it => by cases e; exact p2 S' v H' st rl it) (fun e => by cases e)
      · exact False.elim p1
    · exact False.elim p1)
/-! ## C(..) -/
def mMakeN (c : Nat) (f : Mf) (dds : List D) (ma : Mo (List D)) : Mo AI := fun s => (ma s).bind fun ds s1 => match f (.cid s1.M.length :: (ds ++ dds)) (s1.M ++ [.obj c []]) with
  | .ok (.val .non) M' => .ok (.val (.cid s1.M.length)) ⟨s1.env, M'⟩
  | _ => .no
def mMakeS (c : Nat) (f : Mf) (dds : List D) (ma : Mo (List D)) : Mo AI := fun s => (ma s).bind fun ds s1 => match f (.cid s1.M.length :: (ds ++ dds)) (s1.M ++ [.obj c []]) with
  | .ok (.val .non) M' => .ok (.val (.cid s1.M.length)) ⟨s1.env, M'⟩
  | .er x M' => .er x ⟨s1.env, M'⟩
  | _ => .no
/-- what stands for data whatever the heap -/
def CRL (K : PySem.W.Frag) (vs : List V) (ds : List D) : Prop := ∀ G α n, RpL K G α n vs ds
theorem crl_nil : CRL K [] [] := fun _ _ _ => .nil
theorem crl_cons {v : V} {d : D} {vs : List V} {ds : List D} (h : CR K v d) (r : CRL K vs ds) : CRL K (v :: vs) (d :: ds) := fun G α n => .cons (h G α n) (r G α n)
theorem make_ok {c : Nat} {f : Mf} {E : XK} {Q : VK} {vs dvs : List V} {ds dds : List D} {x dx : Addr} (rel : Rel K ct H0 S s σ H) (hv : RpL K S.G S.α s.M.length vs ds) (hd : CRL K dvs dds) (hx : H x = none) (hdx : H dx = none) (hne : dx ≠ x)
    (hE : ∀ y M', f (.cid s.M.length :: (ds ++ dds)) (s.M ++ [.obj c []]) = .er y M' → ∀ S' H' dd, Stp S s.M.length H S' M'.length H' → Rel K ct H0 S' ⟨s.env, M'⟩ σ H' → XOk K S' M'.length H' y dd → E (.ref (ct y.cls)) dd H')
    (hQ : ∀ M', f (.cid s.M.length :: (ds ++ dds)) (s.M ++ [.obj c []]) = .ok (.val .non) M' → ∀ S' H', Stp S s.M.length H S' M'.length H' → Rel K ct H0 S' ⟨s.env, M'⟩ σ H' → Rp K S'.G S'.α M'.length (.ref x) (.cid s.M.length) → Q (.ref x) H')
    (hn : (∃ M', f (.cid s.M.length :: (ds ++ dds)) (s.M ++ [.obj c []]) = .ok (.val .non) M') ∨ ∃ y M', f (.cid s.M.length :: (ds ++ dds)) (s.M ++ [.obj c []]) = .er y M') :
    spM K ct f (.ref x :: (vs ++ dvs)) (upd (upd H dx (.own x)) x (.ins (ct c) dx [])) (fun v H2 => v = .non ∧ Q (.ref x) H2) E := by
  have hx' : (upd H dx (.own x)) x = none := by rw [upd_ne (Ne.symm hne)]; exact hx
  have relA : Rel K ct H0 S s σ (upd (upd H dx (.own x)) x (.ins (ct c) dx [])) := (rel.new (o := .own x) hdx).new hx'
  have stA : Stp S s.M.length H S s.M.length (upd (upd H dx (.own x)) x (.ins (ct c) dx [])) := (Stp.new rel hdx).trans (Stp.new (rel.new (o := .own x) hdx) hx')
  have hl : S.lab x = none := rel.labN hx
  have hg : S.G x = none := rel.gN hx
  have relT := relA.track (p := x) (c := .obj c []) hl hg ⟨dx, [], upd_same, rfl, .nil⟩
  have hlen : (s.M ++ [Cn.obj c []]).length = s.M.length + 1 := by simp
  have stT : Stp S s.M.length H (S.tr s.M.length x) (s.M.length + 1) (upd (upd H dx (.own x)) x (.ins (ct c) dx [])) := stA.track hx
  have hv' : RpL K (S.tr s.M.length x).G (S.tr s.M.length x).α (s.M.length + 1) vs ds := hv.mono stT.g stT.al stT.le
  refine ⟨(S.tr s.M.length x).hide, s.M ++ [.obj c []], .cid s.M.length :: (ds ++ dds), relT.hide, ?_, ?_⟩
  · rw [hlen]
    exact .cons (show Rp K (S.tr s.M.length x).G (S.tr s.M.length x).α (s.M.length + 1) _ _ from tr_cid) (RpL.append (show RpL K (S.tr s.M.length x).G (S.tr s.M.length x).α (s.M.length + 1) _ _ from hv') (hd _ _ _))
  · have stT' : Stp S s.M.length H (S.tr s.M.length x) (s.M ++ [Cn.obj c []]).length (upd (upd H dx (.own x)) x (.ins (ct c) dx [])) := by rw [hlen]; exact stT
    refine fpst_of relT (fun y M' e S' H' dd st rl xo => hE y M' e S' H' dd (stT'.trans st) rl xo) (fun a M' e S' v H' st rl it => ?_) (fun e => ?_)
    · rcases hn with ⟨M2, e2⟩ | ⟨y, M2, e2⟩
      · rw [e2] at e
        injection e with ea em
        subst ea em
        have it : Rp K S'.G S'.α M2.length v .non := it
        cases it
        refine ⟨rfl, hQ M2 e2 S' H' (stT'.trans st) rl ?_⟩
        have hlt : s.M.length < (s.M ++ [Cn.obj c []]).length := by rw [hlen]; omega
        have ea := st.al s.M.length hlt
        have eb : (S.tr s.M.length x).α s.M.length = x := if_pos rfl
        rw [eb] at ea
        have r : Rp K S'.G S'.α M2.length (.ref (S'.α s.M.length)) (.cid s.M.length) := .cid (Nat.lt_of_lt_of_le hlt st.le)
        rw [ea] at r; exact r
      · rw [e2] at e; cases e
    · rcases hn with ⟨M2, e2⟩ | ⟨y, M2, e2⟩
      · rw [e2] at e; cases e
      · rw [e2] at e; cases e
theorem ei_makeN {c : Nat} {f : Mf} {E : XK} {t : TA} {ma : Mo (List D)} {dvs : List V} {dds : List D} (hd : CRL K dvs dds) (ha : EvL K ct H0 W t ma) : Ei K ct H0 W (tMake (ct c) (spM K ct f) dvs E t) (mMakeN c f dds ma) := fun S s σ H Q rel p =>
  ha S s σ H _ rel (Pst.bind bI p fun S1 s1 H1 vs ds st1 rel1 i1 p1 => by
    intro x dx hx hdx hne
    split at p1
    · rename_i M' e
      exact make_ok rel1 i1 hd hx hdx hne (fun y M'' e' => by rw [e] at e'; cases e') (fun M'' e' S' H' st rl r => by rw [e] at e'; cases e'; exact p1 S' _ H' st rl r) (.inl ⟨M', e⟩)
    · exact False.elim p1)
theorem ei_makeS {c : Nat} {f : Mf} {t : TA} {ma : Mo (List D)} {dvs : List V} {dds : List D} (hd : CRL K dvs dds) (ha : EvL K ct H0 W t ma) : Ei K ct H0 W (Z.tMakeS (ct c) (spM K ct f) dvs (WE W) t) (mMakeS c f dds ma) := fun S s σ H Q rel p =>
  ha S s σ H _ rel (Pst.bind bI p fun S1 s1 H1 vs ds st1 rel1 i1 p1 => by
    intro x dx hx hdx hne
    split at p1
    · rename_i M' e
      exact make_ok rel1 i1 hd hx hdx hne (fun y M'' e' => by rw [e] at e'; cases e') (fun M'' e' S' H' st rl r => by rw [e] at e'; cases e'; exact p1 S' _ H' st rl r) (.inl ⟨M', e⟩)
    · rename_i y M' e
      exact make_ok rel1 i1 hd hx hdx hne (fun y' M'' e' S' H' dd st rl xo => by rw [e] at e'; cases e'; exact p1 S' H' dd st rl xo) (fun M'' e' => by rw [e] at e'; cases e') (.inr ⟨y, M', e⟩)
    · exact False.elim p1)
end
/-! ## steps -/
section
variable {s : Stt} {X : Exn → Stt → Prop} {QA : AI → Stt → Prop} {N : Stt → Prop} {O : Rs → Prop} {QD : D → Stt → Prop} {m mo mv : Mo AI} {ma : Mo (List D)}
theorem w_K (h : Wo (fun a s1 => Wo QD X (toK a s1)) X (m s)) : Wo QD X (mK m s) := w_bind h
theorem w_toKN {c : Cn} (h : QD (.cid s.M.length) ⟨s.env, s.M ++ [c]⟩) : Wo QD X (toK (.new c) s) := h
theorem w_toKV {d : D} (h : QD d s) : Wo QD X (toK (.val d) s) := h
theorem w_toKS {i : Nat} (h : Wo QD X (toV (.slot i) s)) : Wo QD X (toK (.slot i) s) := h
theorem w_fld {ok : Nat → Bool} {f : Str} (h : Wo (fun a s1 => ∃ k c fs d, objAt s1 a = some (k, c, fs) ∧ ok c = true ∧ fs.lookup f = some d ∧ QA (.val d) s1) X (m s)) : Wo QA X (mFld ok f m s) := w_bind (w_mono h fun a s1 ⟨k, c, fs, d, e, h1, h2, h⟩ => by
  show Wo QA X (match objAt s1 a with | some (_, c, fs) => _ | none => _)
  rw [e]; simp only []; rw [if_pos h1, h2]; exact h)
theorem w_fldS {ok : Nat → Bool} {f : Str} (h : Wo (fun d s1 => Wo (fun a s2 => ∃ k c fs, objAt s2 a = some (k, c, fs) ∧ (ok c = true ∧ fs.length < 1000) ∧ N ⟨s2.env, s2.M.set k (.obj c (putD f d fs))⟩) (fun x s => O (.er x s)) (mo s1)) (fun x s => O (.er x s)) (mK mv s)) : Ws N O (mFldS ok f mo mv s) :=
  w_toS (w_mono h fun d s1 h => w_toS (w_mono h fun a s2 ⟨k, c, fs, e, h1, h⟩ => by
    show Ws N O (match objAt s2 a with | some (k, c, fs) => _ | none => _)
    rw [e]; simp only []; rw [if_pos h1]; exact h))
theorem w_fldA {ok : Nat → Bool} {f : Str} {g : Int → Int → Int} (h : Wo (fun a s1 => ∃ k c fs i, objAt s1 a = some (k, c, fs) ∧ ok c = true ∧ fs.lookup f = some (.int i) ∧ Wo (fun b s2 => ∃ j fs', b = .val (.int j) ∧ s2.M[k]? = some (.obj c fs') ∧ fs'.length < 1000 ∧ N ⟨s2.env, s2.M.set k (.obj c (putD f (.int (g i j)) fs'))⟩) (fun x s => O (.er x s)) (mv s1)) (fun x s => O (.er x s)) (mo s)) : Ws N O (mFldA ok f g mo mv s) :=
  w_toS (w_mono h fun a s1 ⟨k, c, fs, i, e, h1, h2, h⟩ => by
    show Ws N O (match objAt s1 a with | some (k, c, fs) => _ | none => _)
    rw [e]; simp only []; rw [if_pos h1, h2]
    exact w_toS (w_mono h fun b s2 ⟨j, fs', e1, e2, h3, h⟩ => by
      subst e1
      show Ws N O (match s2.M[k]? with | some (.obj c' fs') => _ | _ => _)
      rw [e2]; simp only []; rw [if_pos ⟨trivial, h3⟩]; exact h))
theorem w_methN {c : Nat} {nm : Str} {f : Mf} (h : Wo (fun a s1 => ∃ k fs, objAt s1 a = some (k, c, fs) ∧ fs.lookup nm = none ∧ Wo (fun ds s2 => Fo (fun a M' => QA a ⟨s2.env, M'⟩) (f (.cid k :: ds) s2.M)) X (ma s1)) X (mo s)) : Wo QA X (mMethN c nm f mo ma s) := w_bind (w_mono h fun a s1 ⟨k, fs, e, h1, h⟩ => by
  show Wo QA X (match objAt s1 a with | some (k, c', fs) => _ | none => _)
  rw [e]; simp only []; rw [if_pos ⟨trivial, h1⟩]
  exact w_bind (w_mono h fun ds s2 h => by
    show Wo QA X (match f (.cid k :: ds) s2.M with | .ok a M' => _ | _ => _)
    cases q : f (.cid k :: ds) s2.M <;> rw [q] at h <;> exact h))
theorem w_methS {c : Nat} {nm : Str} {f : Mf} (h : Wo (fun a s1 => ∃ k fs, objAt s1 a = some (k, c, fs) ∧ fs.lookup nm = none ∧ Wo (fun ds s2 => Fx (fun a M' => QA a ⟨s2.env, M'⟩) (fun x M' => X x ⟨s2.env, M'⟩) (f (.cid k :: ds) s2.M)) X (ma s1)) X (mo s)) : Wo QA X (mMethS c nm f mo ma s) := w_bind (w_mono h fun a s1 ⟨k, fs, e, h1, h⟩ => by
  show Wo QA X (match objAt s1 a with | some (k, c', fs) => _ | none => _)
  rw [e]; simp only []; rw [if_pos ⟨trivial, h1⟩]
  exact w_bind (w_mono h fun ds s2 h => by
    show Wo QA X (match f (.cid k :: ds) s2.M with | .ok a M' => _ | .er x M' => _ | .no => _)
    cases q : f (.cid k :: ds) s2.M <;> rw [q] at h <;> exact h))
theorem w_makeN {c : Nat} {f : Mf} {dds : List D} (h : Wo (fun ds s1 => Fo (fun a M' => a = .val .non ∧ QA (.val (.cid s1.M.length)) ⟨s1.env, M'⟩) (f (.cid s1.M.length :: (ds ++ dds)) (s1.M ++ [.obj c []]))) X (ma s)) : Wo QA X (mMakeN c f dds ma s) := w_bind (w_mono h fun ds s1 h => by
  show Wo QA X (match f (.cid s1.M.length :: (ds ++ dds)) (s1.M ++ [.obj c []]) with | .ok (.val .non) M' => _ | _ => _)
  cases q : f (.cid s1.M.length :: (ds ++ dds)) (s1.M ++ [.obj c []]) with
  | no => rw [q] at h; exact h
  | er x M' => rw [q] at h; exact h
  | ok a M' => rw [q] at h; obtain ⟨rfl, h⟩ := h; exact h)
theorem w_makeS {c : Nat} {f : Mf} {dds : List D} (h : Wo (fun ds s1 => Fx (fun a M' => a = .val .non ∧ QA (.val (.cid s1.M.length)) ⟨s1.env, M'⟩) (fun x M' => X x ⟨s1.env, M'⟩) (f (.cid s1.M.length :: (ds ++ dds)) (s1.M ++ [.obj c []]))) X (ma s)) : Wo QA X (mMakeS c f dds ma s) := w_bind (w_mono h fun ds s1 h => by
  show Wo QA X (match f (.cid s1.M.length :: (ds ++ dds)) (s1.M ++ [.obj c []]) with | .ok (.val .non) M' => _ | .er x M' => _ | _ => _)
  cases q : f (.cid s1.M.length :: (ds ++ dds)) (s1.M ++ [.obj c []]) with
  | no => rw [q] at h; exact h
  | er x M' => rw [q] at h; exact h
  | ok a M' => rw [q] at h; obtain ⟨rfl, h⟩ := h; exact h)
theorem objAt_of {k c : Nat} {fs : List (Str × D)} (h : s.M[k]? = some (.obj c fs)) : objAt s (.val (.cid k)) = some (k, c, fs) := by unfold objAt; simp only []; rw [h]
end
end Y

namespace Y
open PySem L2 Z
open PyProof.Rows
section
variable {X : Cx}
/-! ## d != {} -/
def rNeD0 : R2 := fun x y H Q => ∃ a b kvs, x = .ref a ∧ y = .ref b ∧ Rd H a (.dK kvs) ∧ Rd H b (.dK []) ∧ Q (.bl (!(kvs.length == 0))) H
theorem op_neD0 (hu : X.A.units < cLine) : OpR X (compareOp .NotEq) rNeD0 := by
  intro pins s σ H x y v u Q I rx ry h
  obtain ⟨a, b, kvs, rfl, rfl, ea, eb, q⟩ := h
  obtain rfl : v = Value.ref a := rx
  obtain rfl : u = Value.ref b := ry
  obtain ⟨_, ya, va, ra, da⟩ := dk_rd I.hok ea
  obtain ⟨_, yb, vb, rb, db⟩ := dk_rd I.hok eb
  have hb : vb.length = 0 := rb.length.symm
  refine PySem.W.keq_ne (knd := mixKind X.prog X.w) (r := true) ya yb da db hu (fun hl => ?_) (fin_bl I q (by rw [hb, ra.length]; simp))
  have : va = [] := List.length_eq_zero_iff.mp (by omega)
  subst this
  exact .nil
/-! ## sorted(d.values()) -/
def tSortVals (td : TE) : TE := fun σ H Q => td σ H fun x H1 => ∃ (a : Addr) (kvs : List (Key × V)) (is : List Int), x = V.ref a ∧ Rd H1 a (.dK kvs) ∧ kvs.map (·.2) = is.map V.int ∧ ∀ p, H1 p = none → Q (.ref p) (upd H1 p (.lst ((is.mergeSort fun i j => decide (i ≤ j)).map V.int)))
theorem each_ints : ∀ {us : List Value} {is : List Int}, us.length = is.length → (∀ j v, us[j]? = some v → ∃ t, v = Value.int (is.getD j 0) t) → PySem.W.EachIs (fun v (i : Int) => ∃ t, v = Value.int i t) us is
  | [], [], _, _ => .nil
  | u :: us, i :: is, hl, h => .cons (h 0 u rfl) (each_ints (by simpa using hl) fun j v e => h (j + 1) v e)
  | [], _ :: _, hl, _ => by simp at hl
  | _ :: _, [], hl, _ => by simp at hl
theorem vals_ints : ∀ {us : List Value} {is : List Int}, PySem.W.EachIs (fun v (i : Int) => ∃ t, v = Value.int i t) us is → Vals (is.map V.int) us
  | _, _, .nil => .nil
  | _, _, .cons h r => .cons h (vals_ints r)
variable {o : Expr} {p pos apos mpos : Pos} {td : TE}
theorem pe_sortVals (hc : X.calm = true) (hu : X.A.units + 70 < cLine) (hg : Gl X "sorted") (hm : X.mg "sorted" = none) (hd : PE X o td) (hbase : attributeBase o "values" X.env (eval o X.env) = eval o X.env := by rfl) (hline : (apos.endLine == mpos.line) = true := by rfl)
    (hse : starEach [Expr.Call (.Attribute o "values" apos) [] [] mpos] X.env = [(false, eval (Expr.Call (.Attribute o "values" apos) [] [] mpos) X.env)] := by rfl) :
    PE X (.Call (.Name "sorted" p) [.Call (.Attribute o "values" apos) [] [] mpos] [] pos) (tSortVals td) := by
  refine ⟨fun pins s σ H Q I h => ?_⟩
  refine wpAny_Call_Name_kw (ld_blt I hg hm (u := .builtin "sorted") (by first | rfl | decide +kernel) ?_ (by first | decide +kernel | decide) (by first | decide +kernel | decide))
  rw [hse]
  refine PySem.callWith_builtin1 (wpAny_Call_method0_late hbase hline (thn (hd.run pins s σ H _ I h) fun v s1 ⟨x, H1, I1, r1, a, kvs, is, ex, ha, hv, q⟩ => ?_))
  subst ex
  obtain rfl : v = Value.ref a := r1
  obtain ⟨hz, hsys, vs, rel, dof⟩ := dk_rd I1.hok ha
  obtain ⟨ep, dat⟩ := dof.dictAt
  have dat' := dat
  obtain ⟨ob, es, ho, ex, hdat, hko, hpr, hnd⟩ := dat'
  refine ⟨"dict", "dict.values", F.plainAttrs_dict, F.slot_dict_values, F.type_dict_values, ⟨ob, ho, ex.1⟩, fun b e => ?_, Calls.callWith_builtin rfl (PySem.evalArgs_none ?_)⟩
  · cases e
    exact ⟨ob, ho, ex.2.1⟩
  refine call_meetsIn F.slot_dict_values ⟨ob, ho, ex.1⟩ F.entry_dict_values (F.args_dict_values_1 _) (meets_dict_values (mixKind X.prog X.w) a hsys) ⟨⟨vs, dof⟩, ?_⟩
  have k1 : ∀ b u, s1.heap.get? b = some u → (s1.heap.push { cls := .type "dict_values", data := .fields #[.ref a] }).get? b = some u := fun b u e => Heap.get?_push_of_some _ e
  have dat1 : (s1.heap.push { cls := .type "dict_values", data := .fields #[.ref a] }).DictAt (mixKind X.prog X.w) a vs ep := dat.keep k1
  have I2 : Inv X pins σ H1 { s1 with heap := s1.heap.push { cls := .type "dict_values", data := .fields #[.ref a] } } := I1.kept k1
  have hlv : vs.length = is.length := by
    have e1 := congrArg List.length hv
    rw [List.length_map, List.length_map] at e1
    rw [← e1]
    exact (KV.length rel).symm
  have hvz : vs.length ≤ sizeLine := by rw [← KV.length rel]; exact hz
  have hview : (s1.heap.push { cls := .type "dict_values", data := .fields #[.ref a] }).IsValuesView s1.heap.objs.size a := ⟨_, Heap.get?_push_size _ rfl, rfl, rfl⟩
  have hval : ∀ (i : Nat) (v : Value), (∃ k, vs[i]? = some (k, v)) → ∃ t, v = Value.int (is.getD i 0) t := fun i v ⟨k, hk⟩ => by
    obtain ⟨x, h1, h2⟩ := KV.at' rel hk
    have e1 : (kvs.map (·.2))[i]? = some x := by rw [List.getElem?_map, h1]; rfl
    rw [hv, List.getElem?_map] at e1
    obtain ⟨j, hj, e2⟩ := Option.map_eq_some_iff.mp e1
    subst e2
    obtain ⟨t, e3⟩ := h2
    exact ⟨t, by rw [e3, List.getD_eq_getElem?_getD, hj]; rfl⟩
  generalize hs2 : ({ s1 with heap := s1.heap.push { cls := .type "dict_values", data := .fields #[.ref a] } } : Shared) = s2 at I2 ⊢
  have hheap : s2.heap = s1.heap.push { cls := .type "dict_values", data := .fields #[.ref a] } := by rw [← hs2]
  rw [← hheap] at dat1 hview
  refine Calls.call_function_entry kind_sorted plain_sorted entry_sorted (args_sorted1 _) ?_
  unfold Builtin.«sorted»
  refine wpAny_bind (m := checkCount "sorted" 1 1 _) (wpAny_pure ?_)
  refine wpAny_bind (PySem.W.kdu_collect (A := X.A.in1) (PySem.W.kdl_values (knd := mixKind X.prog X.w) (kvs := vs) (ep := ep)) (I.ok.hd hc) ⟨hview, dat1⟩ hvz fun h' tk acc hk hacc => ?_)
  have hal : acc.toList.length = is.length := by rw [Array.length_toList, hacc.1, hlv]
  have hE := each_ints hal fun j v e => hval j v (hacc.2 j v (by rw [← Array.getElem?_toList]; exact e))
  have I3 : Inv X pins σ H1 { s2 with heap := h', toks := tk } := I2.kept hk
  refine wpAny_bind (wpAny_newList ?_ (by rw [hal, ← hlv]; exact hvz))
  have hoL : (h'.push (seqObj "list" acc.toList.toArray 0)).get? h'.objs.size = some (seqObj "list" acc.toList.toArray 0) := Heap.get?_push_size _ rfl
  show wpAny _ _ _ _ _ { s2 with heap := h'.push (seqObj "list" acc.toList.toArray 0), toks := tk }
  refine wpAny_bind (wpAny_holding (PySem.W.list_sort_data (s := { s2 with heap := h'.push (seqObj "list" acc.toList.toArray 0), toks := tk }) (bs := is) (enc := PyData.int) hoL hE ?_ ?_ ?_ (by rw [← hlv]; exact hvz) ?_ fun out hol hout => ?_))
  · exact hE.mono fun v i ⟨t, e⟩ => ⟨[], by subst e; exact (.int i t), fun h => nomatch h⟩
  · exact PySem.W.AllAlike.of fun _ _ => rfl
  · refine .inr fun d hd => ?_
    obtain ⟨i, _, rfl⟩ := List.mem_map.mp hd
    exact ⟨(fun z => nomatch z), (fun xs z => nomatch z)⟩
  · intro b hb
    show _ + 1 + 0 < cLine
    have : X.A.in1.units ≤ X.A.units + 1 := by first | exact Nat.le_refl _ | simp [Around.in1] | omega
    omega
  · obtain ⟨e', he'⟩ := PyProof.Rows.sortedHeap_at (vs := acc.toList) (out := out.toArray) hoL
    have hvo := vals_ints hout
    rw [show PySem.W.dataLe false PyData.int = fun i j => decide (i ≤ j) from PySem.W.dataLe_int (fun i => i)] at hvo
    refine wpAny_pure ⟨_, rfl, .ref h'.objs.size, upd H1 h'.objs.size (.lst ((is.mergeSort fun i j => decide (i ≤ j)).map V.int)), I3.laid (t' := tk) (fun b u e => ?_) (Nat.le_refl _)
      (show ObjOk X.prog X.w _ _ _ (.lst _) from ⟨by rw [List.length_map, List.length_mergeSort, ← hlv]; exact hvz, out, e', hvo, he'⟩), rfl, q _ (I3.hok.fresh (Nat.le_refl _))⟩
    have hb : b < h'.objs.size := Heap.lt_size e
    rw [PyProof.Rows.sortedHeap_old (Nat.ne_of_lt hb) (by rw [size_push']; exact Nat.lt_succ_of_lt hb)]
    exact Heap.get?_push_of_some _ e
end
end Y
namespace Y
open PySem L2 Z
section
variable {K : PySem.W.Frag} {ct : Ct} {H0 : Hp} {W : WX}
def fNeD0 : Stt → AI → AI → Ro AI := fun s a b => match viewD s a with
  | some l => match viewD s b with
    | some [] => .ok (.val (.bl (!(l.length == 0)))) s
    | _ => .no
  | none => .no
theorem j_neD0 : J2 K ct H0 rNeD0 fNeD0 := fun W S s σ H Hs Hs' x y a b Q rel ia ib p => by
  unfold fNeD0 at p
  split at p
  · rename_i l e
    split at p
    · rename_i e2
      obtain ⟨q, kvs, rfl, h1, h2⟩ := viewD_ok rel ia e
      obtain ⟨q', kvs', rfl, g1, g2⟩ := viewD_ok rel ib e2
      have : kvs' = [] := List.length_eq_zero_iff.mp g2.len
      subst this
      exact ⟨q, q', kvs, rfl, rfl, h1, g1, by rw [h2.len]; exact p.val rel (.bl _)⟩
    · exact False.elim p
  · exact False.elim p
def leI (i j : Int) : Bool := decide (i ≤ j)
def mSortVals (mo : Mo AI) : Mo AI := fun s => (mo s).bind fun a s1 => match (viewD s1 a).bind fun l => intsD (l.map Prod.snd) with
  | some is => .ok (.new (.lst ((is.mergeSort leI).map D.int))) s1
  | none => .no
theorem ei_sortVals {td : TE} {mo : Mo AI} (ho : Ei K ct H0 W td mo) : Ei K ct H0 W (tSortVals td) (mSortVals mo) := fun S s σ H Q rel p =>
  ho S s σ H _ rel (Pst.bind bI p fun S1 s1 H1 x a st1 rel1 i1 p1 => by
    split at p1
    · rename_i is e
      obtain ⟨l, e1, e2⟩ := Option.bind_eq_some_iff.mp e
      obtain ⟨q, kvs, rfl, h1, h2⟩ := viewD_ok rel1 i1 e1
      refine ⟨q, kvs, is, rfl, h1, ints_rp h2.vals e2, fun r hr => p1.newL rel1 hr ?_⟩
      exact rpl_ints (is.mergeSort leI)
    · exact False.elim p1)
def mMinVals (mo : Mo AI) : Mo AI := fun s => (mo s).bind fun a s1 => match a with
  | .val (.cid k) => match s1.M[k]? with
    | some (.dK l) => match intsD (l.map Prod.snd) with
      | some (i :: is) => .ok (.val (.int (is.foldl min i))) s1
      | _ => .no
    | _ => .no
  | _ => .no
theorem foldl_min : ∀ (is : List Int) (i m : Int), (m ∈ i :: is ∧ ∀ j ∈ i :: is, m ≤ j) → m = is.foldl min i
  | [], i, m, ⟨h1, h2⟩ => by simpa using h1
  | j :: is, i, m, ⟨h1, h2⟩ => by
    refine foldl_min is (min i j) m ⟨?_, fun k hk => ?_⟩
    · have a := h2 i (by simp)
      have b := h2 j (by simp)
      rcases List.mem_cons.mp h1 with rfl | h1
      · exact List.mem_cons.mpr (.inl (by omega))
      · rcases List.mem_cons.mp h1 with rfl | h1
        · exact List.mem_cons.mpr (.inl (by omega))
        · exact List.mem_cons.mpr (.inr h1)
    · rcases List.mem_cons.mp hk with rfl | hk
      · have a := h2 i (by simp)
        have b := h2 j (by simp)
        omega
      · exact h2 k (by simp [hk])
theorem ei_minVals {td : TE} {mo : Mo AI} (ho : Ei K ct H0 W td mo) : Ei K ct H0 W (tMinVals td) (mMinVals mo) := fun S s σ H Q rel p =>
  ho S s σ H _ rel (Pst.bind bI p fun S1 s1 H1 x a st1 rel1 i1 p1 => by
    split at p1
    · rename_i k
      split at p1
      · rename_i l e
        split at p1
        · rename_i i is e2
          have i1' : Rp K S1.G S1.α s1.M.length x (.cid k) := i1
          cases i1'
          obtain ⟨vs, h1, h3, h2⟩ := (rel1.ids k _ e).2
          refine ⟨_, vs, i :: is, rfl, h1, ints_rp h2 e2, (by simp), fun m hm hj => ?_⟩
          rw [foldl_min is i m ⟨hm, hj⟩]
          exact p1.val rel1 (.int _)
        · exact False.elim p1
      · exact False.elim p1
    · exact False.elim p1)
/-! ## a, b = f(borrowed) -/
def mAsgTB (n : Nat) (g : Tgs) (f : Mf) (m : Mo (List AI)) : Ms := fun s => (m s).toS fun as s1 => match snap s1 as with
  | some ds => if D.noIdL ds = true then (match f ds [] with
    | .ok (.val d) _ => (match tupOf d with
      | some l => if l.length = n ∧ l.all D.scal = true then (match g l s1 with | some s2 => .nx s2 | none => .no) else .no
      | none => .no)
    | _ => .no) else .no
  | none => .no
theorem sv_asgTB {js : List Nat} {n : Nat} {gs : TGs} {g : Tgs} {f : Mf} {E : XK} {t : TA} {m : Mo (List AI)} (hg : Sgs K ct H0 js gs g) (h : EaL K ct H0 W t m) : Sv K ct H0 W (tAsg (tCallZ (spM K ct f) E t) (gTup K n gs)) (mAsgTB n g f m) := fun S s σ H Dn rel p =>
  h S s σ H _ rel (PstS.bind p fun S1 s1 H1 vs as st1 rel1 i1 p1 => by
    split at p1
    · rename_i ds e
      split at p1
      · rename_i hn
        refine ⟨⟨U ct.lk H1, S1.α, fun _ => none⟩, [], ds, ⟨fun _ _ e => e, (fun a l e => nomatch e), fun _ e => e, rfl, (fun i e q => by simp at q), (fun k c q => by simp at q)⟩, (snap_ok rel1 i1 e).noId hn, ?_⟩
        split at p1
        · rename_i d M' ef
          rw [ef]
          split at p1
          · rename_i l el
            split at p1
            · rename_i hc
              split at p1
              · rename_i s2 eg
                intro S' v H' st rel' it
                have k : ∀ a o, H1 a = some o → H' a = some o := fun a o e => (st.fr a o e rfl).1
                obtain ⟨q, us, rfl, k1, k2⟩ := viewT_ok (Hs := H') (a := .val d) (v := v) rel' it (by unfold viewT look; exact el)
                show gTup K n gs _ σ H' Dn.nx
                refine ⟨q, us, rfl, k1, by rw [k2.length]; exact hc.1, ?_⟩
                have st2 : Stp S1 s1.M.length H1 S1 s1.M.length H' := ⟨fun _ _ e => e, Nat.le_refl _, fun _ _ => rfl, fun a o e l => ⟨k a o e, l⟩, fun _ _ e => .inl e, st.dom⟩
                exact hg S1 s1 σ H' us l s2 _ (rel1.grow k) (RpL.scal k2 hc.2) eg fun S2 σ2 st3 rel2 _ _ _ => p1 S2 σ2 H' ((st1.trans st2).trans st3) rel2
              · exact False.elim p1
            · exact False.elim p1
          · exact False.elim p1
        · exact False.elim p1
      · exact False.elim p1
    · exact False.elim p1)
/-! ## steps -/
variable {s : Stt} {QA : AI → Stt → Prop} {X : Exn → Stt → Prop} {N : Stt → Prop} {O : Rs → Prop}
theorem w_neD0 {a b : AI} {l : List (Key × D)} (e : viewD s a = some l) (e2 : viewD s b = some []) (h : QA (.val (.bl (!(l.length == 0)))) s) : Wo QA X (fNeD0 s a b) := by
  unfold fNeD0; rw [e]; simp only []; rw [e2]; exact h
theorem w_sortVals {m : Mo AI} (h : Wo (fun a s1 => ∃ l is, viewD s1 a = some l ∧ intsD (l.map Prod.snd) = some is ∧ QA (.new (.lst ((is.mergeSort leI).map D.int))) s1) X (m s)) : Wo QA X (mSortVals m s) := w_bind (w_mono h fun a s1 ⟨l, is, e1, e2, h⟩ => by
  show Wo QA X (match (viewD s1 a).bind fun l => intsD (l.map Prod.snd) with | some is => _ | none => _)
  rw [e1, Option.bind_some, e2]; exact h)
theorem w_minVals {m : Mo AI} (h : Wo (fun a s1 => ∃ k l i is, a = .val (.cid k) ∧ s1.M[k]? = some (.dK l) ∧ intsD (l.map Prod.snd) = some (i :: is) ∧ QA (.val (.int (is.foldl min i))) s1) X (m s)) : Wo QA X (mMinVals m s) := w_bind (w_mono h fun a s1 ⟨k, l, i, is, e1, e2, e3, h⟩ => by
  subst e1
  show Wo QA X (match s1.M[k]? with | some (.dK l) => _ | _ => _)
  rw [e2]; simp only []; rw [e3]; exact h)
theorem w_asgTB {n : Nat} {g : Tgs} {f : Mf} {m : Mo (List AI)} (h : Wo (fun as s1 => ∃ ds d M' l s2, snap s1 as = some ds ∧ D.noIdL ds = true ∧ f ds [] = .ok (.val d) M' ∧ tupOf d = some l ∧ l.length = n ∧ l.all D.scal = true ∧ g l s1 = some s2 ∧ N s2) (fun x s => O (.er x s)) (m s)) : Ws N O (mAsgTB n g f m s) := w_toS (w_mono h fun as s1 ⟨ds, d, M', l, s2, e1, e2, e3, e4, e5, e6, e7, h⟩ => by
  show Ws N O (match snap s1 as with | some ds => _ | none => _)
  rw [e1]; simp only []; rw [if_pos e2, e3]; simp only []; rw [e4]; simp only []; rw [if_pos ⟨e5, e6⟩, e7]; exact h)
theorem w_get2 {m1 m2 m3 : Mo AI} (h : Wo (fun a s1 => (∃ l, viewD s1 a = some l) ∧ Wo (fun i s2 => Wo (fun x s3 => ∃ l k, viewD s3 a = some l ∧ keyOf i = some k ∧ QA (.val ((vl l k).getD x)) s3) X (mV m3 s2)) X (mV m2 s1)) X (m1 s)) : Wo QA X (mGet2 m1 m2 m3 s) := w_bind (w_mono h fun a s1 ⟨⟨l, e⟩, h⟩ => by
  show Wo QA X (match viewD s1 a with | some _ => _ | none => _)
  rw [e]
  exact w_bind (w_mono h fun i s2 h => w_bind (w_mono h fun x s3 ⟨l', k, e1, e2, h⟩ => by
    unfold fGet; rw [e1]; simp only []; rw [e2]; exact h)))
end
theorem ocl_er {l : List ((Nat → Option Bool) × Ms)} {N : Stt → Prop} {O : Rs → Prop} {x : Exn} {s : Stt} (h : Ws N O (clauses l x s)) : Ocl l N O (.er x s) := h
theorem z_b0 {b : Bool} {A C : Prop} (h : b = false) (k : C) : if b = true then A else C := by rw [h]; exact k
theorem z_b1 {b : Bool} {A C : Prop} (h : b = true) (k : A) : if b = true then A else C := by rw [h]; exact k
theorem ws_mono {N N' : Stt → Prop} {O : Rs → Prop} {r : Rs} (h : Ws N O r) (k : ∀ s, N s → N' s) : Ws N' O r := by
  cases r with
  | nx s => exact k s h
  | _ => exact h
/-- both ways of an if meet again -/
theorem w_ifJ {p : Prop} [Decidable p] {N : Stt → Prop} {O : Rs → Prop} {x y : Rs} (I : Stt → Prop) (h1 : p → Ws I O x) (h2 : ¬ p → Ws I O y) (k : ∀ s, I s → N s) : if decide p = true then Ws N O x else Ws N O y :=
  z_if (fun h => ws_mono (h1 h) k) (fun h => ws_mono (h2 h) k)
end Y
namespace Y
open PySem L2 Z
section
variable {X : Cx}
/-! ## a new dict is walked -/
def tFrz (t : TE) : TE := fun σ H Q => t σ H fun v H1 => ∃ d u, v = .ref d ∧ H1 d = some u ∧ Mut (some u) ∧ ∀ od, Q v (upd H1 d (.frz od u))
theorem pe_frz {e : Expr} {t : TE} (h : PE X e t) : PE X e (tFrz t) := ⟨fun pins s σ H Q I q =>
  thn (h.run pins s σ H _ I q) fun v s1 ⟨x, H1, I1, r, d, u, ex, hd, mu, q⟩ => by
    obtain ⟨od, I2⟩ := I1.lock hd mu
    exact ⟨x, _, I2, r, q od⟩⟩
end
section
variable {K : PySem.W.Frag} {ct : Ct} {H0 : Hp} {W : WX}
def mWN (m : Mo AI) : Mo Im := fun s => match m s with
  | .ok (.new (.dK l)) s1 => .ok ⟨dIt .keys l, none⟩ s1
  | .er x s1 => .er x s1
  | _ => .no
theorem jw_newK {te : TE} {m : Mo AI} (h : Ei K ct H0 W te m) : Jw K ct H0 W (iKeys (tFrz te)) (mWN m) := fun S s σ H Q rel p => by
  unfold mWN at p
  refine h S s σ H _ rel ?_
  generalize m s = R at p
  split at p
  · rename_i l s1
    intro S1 v H1 st1 rel1 it
    obtain ⟨d, rfl, h1, h2, h3, h4, kvs, h5, h6, h7⟩ := it
    refine ⟨d, _, rfl, h5, trivial, fun od => ⟨d, od, rfl, .inl ⟨kvs, upd_same, ?_⟩⟩⟩
    have st2 : Stp S s.M.length H S1 s1.M.length (upd H1 d (.frz od (.dK kvs))) := ⟨st1.g, st1.le, st1.al, fun a o e l => by
      obtain ⟨k1, k2⟩ := st1.fr a o e l
      exact ⟨by rw [upd_ne (ne_of_none e h1)]; exact k1, k2⟩, st1.gn, fun a e => st1.dom a (upd_none.mp e).2⟩
    exact p S1 _ _ st2 (rel1.updU h2 h3) (wk_d (kd := .keys) upd_same h2 (RpK.of h6 h7))
  · exact p
  · exact False.elim p
variable {s : Stt} {QI : Im → Stt → Prop} {X : Exn → Stt → Prop}
theorem w_wn {m : Mo AI} (h : Wo (fun a s1 => ∃ l, a = .new (.dK l) ∧ QI ⟨dIt .keys l, none⟩ s1) X (m s)) : Wo QI X (mWN m s) := by
  unfold mWN
  cases q : m s with
  | no => rw [q] at h; exact h
  | er x s1 => rw [q] at h; exact h
  | ok a s1 => rw [q] at h; obtain ⟨l, rfl, h⟩ := h; exact h
end
end Y

/-! # more steps over mirrors -/
namespace Y
open PySem L2 Z
open PySem.W
section
variable {s : Stt} {QA : AI → Stt → Prop} {X : Exn → Stt → Prop} {N : Stt → Prop} {O : Rs → Prop}
theorem ixN_nn {n : Nat} {i : Int} (h0 : 0 ≤ i) (h1 : i < n) : ixN n i = some i.toNat := by unfold ixN; rw [if_pos h0, if_pos h1]
theorem so_setLst {a : AI} {i : Int} {d : D} {l : List D} {j : Nat} (e : getC s a = some (.lst l)) (e2 : ixN l.length i = some j) (h : N (setC s a (.lst (l.set j d)))) : So N (setIt a (.int i) d s) := by
  unfold setIt; rw [e]; simp only []; rw [e2]; exact h
theorem so_setI {a : AI} {i d : Int} {ns : List Int} (e : getC s a = some (.lst (ns.map D.int))) (h0 : 0 ≤ i) (h1 : i < ns.length) (h : N (setC s a (.lst ((ns.set i.toNat d).map D.int)))) : So N (setIt a (.int i) (.int d) s) := by
  refine so_setLst e (ixN_nn h0 (by rw [List.length_map]; exact h1)) ?_
  rw [← List.map_set]; exact h
theorem le_int (i j : Int) : dataLe false pyD (.int i) (.int j) = leI i j := by
  show (!(decide (j < i) || (!decide (i < j) && false))) = decide (i ≤ j)
  by_cases h : j < i
  · have h2 : ¬ i ≤ j := by omega
    have h3 : ¬ i < j := by omega
    simp [h, h2, h3]
  · have h2 : i ≤ j := by omega
    simp [h, h2]
theorem sort_ints (is : List Int) : (is.map D.int).mergeSort (dataLe false pyD) = (is.mergeSort leI).map D.int := (List.map_mergeSort fun i _ j _ => (le_int i j).symm).symm
theorem sortOk_ints (is : List Int) : SortOk (is.map D.int) := by
  refine ⟨fun d hd => ?_, fun d hd d' hd' => ?_, .inr fun d hd => ?_, fun d hd => ?_⟩
  · obtain ⟨i, _, rfl⟩ := List.mem_map.mp hd; rfl
  · rw [List.map_map] at hd hd'
    obtain ⟨i, _, rfl⟩ := List.mem_map.mp hd
    obtain ⟨j, _, rfl⟩ := List.mem_map.mp hd'; rfl
  · rw [List.map_map] at hd
    obtain ⟨i, _, rfl⟩ := List.mem_map.mp hd
    exact ⟨(fun z => nomatch z), (fun _ z => nomatch z)⟩
  · obtain ⟨i, _, rfl⟩ := List.mem_map.mp hd; show 0 ≤ 40; decide
theorem leI_pw (is : List Int) : (is.mergeSort leI).Pairwise (· ≤ ·) := (List.pairwise_mergeSort (le := leI) (fun a b c h1 h2 => by have h1 := of_decide_eq_true h1; have h2 := of_decide_eq_true h2; exact decide_eq_true (by omega)) (fun a b => by show (decide (a ≤ b) || decide (b ≤ a)) = true; simp; omega) is).imp fun h => of_decide_eq_true h
theorem leI_perm (is : List Int) : (is.mergeSort leI).Perm is := List.mergeSort_perm ..
def lePp (x y : Int × Int) : Bool := !ltP y x
theorem le_pair (x y : Int × Int) : dataLe false pyD (tP x) (tP y) = lePp x y := congrArg (!·) (dlt y x)
theorem sort_pairs (ps : List (Int × Int)) : (ps.map tP).mergeSort (dataLe false pyD) = (ps.mergeSort lePp).map tP := (List.map_mergeSort fun i _ j _ => (le_pair i j).symm).symm
theorem sortOk_pairs (ps : List (Int × Int)) : SortOk (ps.map tP) := by
  refine ⟨fun d hd => ?_, fun d hd d' hd' => ?_, .inl fun d hd => ?_, fun d hd => ?_⟩
  · obtain ⟨i, _, rfl⟩ := List.mem_map.mp hd; rfl
  · rw [List.map_map] at hd hd'
    obtain ⟨i, _, rfl⟩ := List.mem_map.mp hd
    obtain ⟨j, _, rfl⟩ := List.mem_map.mp hd'; rfl
  · rw [List.map_map] at hd
    obtain ⟨i, _, rfl⟩ := List.mem_map.mp hd
    exact ⟨_, _, rfl⟩
  · obtain ⟨i, _, rfl⟩ := List.mem_map.mp hd; show 1 ≤ 40; decide
theorem lePp_perm (ps : List (Int × Int)) : (ps.mergeSort lePp).Perm ps := List.mergeSort_perm ..
theorem lePp_pw (ps : List (Int × Int)) : (ps.mergeSort lePp).Pairwise (fun x y => x.1 < y.1 ∨ (x.1 = y.1 ∧ x.2 ≤ y.2)) := (List.pairwise_mergeSort (fun a b c h1 h2 => by unfold lePp ltP at *; simp at *; omega) (fun a b => by unfold lePp ltP; simp; omega) ps).imp fun h => by unfold lePp ltP at h; simp at h; omega
theorem w_tupL {a : AI} {l : List D} (e : viewL s a = some l) (h : QA (.val (.tup l)) s) : Wo QA X (fTup s [a]) := by
  unfold fTup; simp only []; rw [e]; exact h
theorem w_tupT {l : List D} (h : QA (.val (.tup l)) s) : Wo QA X (fTup s [.val (.tup l)]) := h
end
end Y

/-! # more steps over mirrors -/
namespace Y
open PySem L2 Z
open PySem.W
section
variable {s : Stt} {QA : AI → Stt → Prop} {QI : Im → Stt → Prop} {X : Exn → Stt → Prop} {N : Stt → Prop} {O : Rs → Prop}
theorem w_wz {r : Mo (List D)} (h : Wo (fun ds s1 => ∃ l l', ds = [.lst l, .lst l'] ∧ QI ⟨zipL l l', none⟩ s1) X (r s)) : Wo QI X (mWZ r s) :=
  w_bind (w_mono h fun ds s1 h => by
    obtain ⟨l, l', rfl, h⟩ := h
    exact h)
theorem w_wzI {l l' : List D} {P : List D → List D → Prop} (h : P l l') : ∃ m m', [D.lst l, D.lst l'] = [.lst m, .lst m'] ∧ P m m' := ⟨l, l', rfl, h⟩
theorem cutL_last {β : Type} (xs : List β) : cutL xs none (some (-1)) = xs.dropLast := by
  unfold cutL
  have e1 : HT.sIx xs.length 0 none = 0 := rfl
  have e2 : HT.sIx xs.length xs.length (some (-1)) = (-1 + (xs.length : Int)).toNat := by
    unfold HT.sIx
    exact if_pos (by decide)
  rw [e1, e2, List.drop_zero, Nat.sub_zero, List.dropLast_eq_take, show (-1 + (xs.length : Int)).toNat = xs.length - 1 by omega]
theorem ib_le {x : Int} {m : Nat} (h : x.natAbs < 2 ^ m) : Builtin.Int.intBits x ≤ m := by
  unfold Builtin.Int.intBits
  by_cases h0 : x = 0
  · subst h0; simp
  · rw [if_neg (by simpa using h0)]
    have := (Nat.log2_lt (by omega)).mpr h
    omega
theorem cshl_1 {j : Int} (h0 : 0 ≤ j) (h1 : j ≤ 100000) : CShl 1 j := by
  have := ib_le (x := 1) (m := 1) (by decide)
  exact ⟨by omega, by omega⟩
theorem cshl_N {x j : Int} {m : Nat} (hx : x.natAbs < 2 ^ m) (hm : m ≤ 1000000) (h0 : 0 ≤ j) (h1 : j ≤ 1000000) : CShl x j := by
  have := ib_le hx
  exact ⟨by omega, by omega⟩
theorem sh2 {x : Str} {d : PyData} (hx : PySem.PyData.strOk x = true) (hd : d = .none ∨ ∃ i, d = .int i) : SeqAt.shaped (.tuple [.str x, d]) = true := by
  unfold SeqAt.shaped
  rcases hd with rfl | ⟨i, rfl⟩
  · show ((PySem.PyData.strOk x && true) && _) = true
    rw [hx]; rfl
  · show ((PySem.PyData.strOk x && true) && _) = true
    rw [hx]; rfl
end
end Y

/-! # dicts as lists of pairs: what is found -/
namespace Y
open PySem L2 Z
open PySem.W
theorem vl_pu (l : List (Key × D)) (k : Key) (d : D) (j : Key) : vl (pu l k d) j = if j = k then some d else vl l j := by
  unfold pu
  split
  · rename_i ha
    rw [List.any_eq_true] at ha
    obtain ⟨p0, hp0, e0⟩ := ha
    have e0 := of_decide_eq_true e0
    unfold vl
    rw [List.find?_map]
    have ec : ((fun p : Key × D => decide (p.1 = j)) ∘ fun p : Key × D => if p.1 = k then (p.1, d) else p) = fun p : Key × D => decide (p.1 = j) := by
      funext p
      show decide ((if p.1 = k then (p.1, d) else p).1 = j) = _
      split <;> rfl
    rw [ec]
    by_cases hj : j = k
    · rw [if_pos hj]
      cases hf : l.find? fun p => decide (p.1 = j) with
      | none => exact absurd (decide_eq_true (e0.trans hj.symm)) (List.find?_eq_none.mp hf p0 hp0)
      | some p =>
        have this : p.1 = j := by have z := List.find?_some hf; simpa using z
        show some (if p.1 = k then (p.1, d) else p).2 = some d
        rw [if_pos (this.trans hj)]
    · rw [if_neg hj]
      cases hf : l.find? fun p => decide (p.1 = j) with
      | none => rfl
      | some p =>
        have this : p.1 = j := by have z := List.find?_some hf; simpa using z
        show some (if p.1 = k then (p.1, d) else p).2 = some p.2
        rw [if_neg (fun z => hj (this.symm.trans z))]
  · rename_i ha
    unfold vl
    rw [List.find?_append]
    by_cases hj : j = k
    · rw [if_pos hj, List.find?_eq_none.mpr fun p hp => by
        intro z
        have z := of_decide_eq_true z
        exact ha (List.any_eq_true.mpr ⟨p, hp, decide_eq_true (z.trans hj)⟩)]
      rw [Option.none_or, List.find?_cons, decide_eq_true (show ((k, d) : Key × D).1 = j from hj.symm)]; rfl
    · rw [if_neg hj]
      have : ([(k, d)].find? fun p : Key × D => decide (p.1 = j)) = none := by
        rw [List.find?_cons, decide_eq_false (show ¬ ((k, d) : Key × D).1 = j from fun z => hj z.symm)]; rfl
      rw [this, Option.or_none]
theorem pu_len (l : List (Key × D)) (k : Key) (d : D) : (pu l k d).length ≤ l.length + 1 := by
  unfold pu
  split
  · rw [List.length_map]; omega
  · rw [List.length_append]; exact Nat.le_refl _
theorem key_inl {a b : Int} : ((Sum.inl a : Key) = Sum.inl b) ↔ a = b := ⟨Sum.inl.inj, fun h => by rw [h]⟩
theorem mgD_snoc (l : List (Key × D)) (p : Key × D) : mgD (l ++ [p]) = pu (mgD l) p.1 p.2 := by unfold mgD; rw [List.foldl_append]; rfl
theorem kPairs_rng (f : Int → D) (n : Nat) : kPairs ((List.range n).map fun (i : Nat) => D.tup [.int (0 + (i : Int)), f (0 + (i : Int))]) = some ((List.range n).map fun (i : Nat) => ((Sum.inl (0 + (i : Int)) : Key), f (0 + (i : Int)))) := by
  induction (List.range n) with
  | nil => rfl
  | cons i l ih => show (kPair _).bind (fun p => (kPairs (l.map _)).map (p :: ·)) = _; rw [ih]; rfl
theorem mg_rng (f : Int → D) : ∀ n : Nat, (mgD ((List.range n).map fun (i : Nat) => ((Sum.inl (0 + (i : Int)) : Key), f (0 + (i : Int))))).length ≤ n ∧ ∀ x : Int, 0 ≤ x → x < n → vl (mgD ((List.range n).map fun (i : Nat) => ((Sum.inl (0 + (i : Int)) : Key), f (0 + (i : Int))))) (.inl x) = some (f x)
  | 0 => ⟨Nat.le_refl _, fun x h0 h1 => by omega⟩
  | n + 1 => by
    obtain ⟨h1, h2⟩ := mg_rng f n
    rw [List.range_succ, List.map_append, show ([n].map fun (i : Nat) => ((Sum.inl (0 + (i : Int)) : Key), f (0 + (i : Int)))) = [(Sum.inl (0 + (n : Int)), f (0 + (n : Int)))] from rfl, mgD_snoc]
    refine ⟨Nat.le_trans (pu_len ..) (by omega), fun x h0 hx => ?_⟩
    rw [vl_pu]
    by_cases e : x = 0 + (n : Int)
    · rw [if_pos (key_inl.mpr e), e]
    · rw [if_neg (fun z => e (key_inl.mp z)), h2 x h0 (by omega)]
end Y

/-! # lists and tuples of the program's own, xs[i] += e, list.count -/
namespace Y
open PySem L2 Z
section
variable {K : PySem.W.Frag}
/-- a list, a tuple that the program has -/
def KL (K : PySem.W.Frag) (a : Addr) (xs : List V) : Prop := ∃ (o : Obj) (its : Array Value) (n : Nat), K.lookup a = some o ∧ o.cls = .type "list" ∧ o.dict = none ∧ o.data = .seq its n ∧ its.size ≤ sizeLine ∧ Vals xs its.toList
def KT (K : PySem.W.Frag) (a : Addr) (xs : List V) : Prop := ∃ (o : Obj) (its : Array Value) (n : Nat), K.lookup a = some o ∧ o.cls = .type "tuple" ∧ o.data = .seq its n ∧ its.size ≤ sizeLine ∧ Vals xs its.toList
theorem cr_kl {a : Addr} {ns : List Int} (h : KL K a (ns.map V.int)) : CR K (.ref a) (.clst (ns.map D.int)) := fun _ _ _ => .clst (.inr h) (rpl_ints ns)
theorem cr_kt {a : Addr} {ns : List Int} (h : KT K a (ns.map V.int)) : CR K (.ref a) (.ctp (ns.map D.int)) := fun _ _ _ => .ctp (.inr h) (rpl_ints ns)
end
section
variable {X : Cx}
def rGetL (K : PySem.W.Frag) : V → V → Hp → VK → Prop := fun x y H Q => ∃ p xs i v, x = .ref p ∧ y = .int i ∧ SqL K H p xs ∧ 0 ≤ i ∧ xs[i.toNat]? = some v ∧ Q v H
theorem get_list {K : PySem.W.Frag} (hK : X.K = K) : PGet X (rGetL K) := by
  subst hK
  intro pins s σ H x y v u Q I rx ry h
  obtain ⟨p, xs, i, z, rfl, rfl, hq, h0, he, q⟩ := h
  cases rx
  obtain ⟨t, rfl⟩ := ry
  obtain ⟨its, r, pl, hz⟩ := I.list hq
  obtain ⟨w, ew, rw'⟩ := r.get he
  have hl := r.length
  have hn := line63
  have hi := (List.getElem?_eq_some_iff.mp he).1
  exact wpAny_getItem_list pl.isList h0 (by omega) (by simpa using ew) ⟨z, H, I, rw', q⟩
def rCnt (K : PySem.W.Frag) : V → List V → Hp → VK → Prop := fun x xs H Q => ∃ (a : Addr) (ns : List Int) (k : Int), x = .ref a ∧ xs = [.int k] ∧ SqL K H a (ns.map V.int) ∧ Q (.int (ns.count k : Nat)) H
theorem cnt_ok {K : PySem.W.Frag} (hK : X.K = K) : MtR X "list.count" (rCnt K) := by
  subst hK
  intro pins s σ H x xs v us Q I rx rxs h
  obtain ⟨a, ns, k, rfl, rfl, hs, q⟩ := h
  cases rx
  cases rxs with
  | cons ry rt =>
    cases rt
    obtain ⟨t, rfl⟩ := ry
    obtain ⟨its, rv, pl, hz⟩ := I.list hs
    exact PyProof.Rows.count_list_ints pl.isList rv.ints ⟨.int (ns.count k : Nat), H, I.tok _, ⟨_, rfl⟩, q⟩
end
section
variable {K : PySem.W.Frag} {ct : Ct} {H0 : Hp} {W : WX} {S : Sh} {s : Stt} {σ : St} {H : Hp}
def fCnt (s : Stt) (a : AI) (ds : List D) : Ro AI := match ds with
  | [.int k] => match (viewL s a).bind intsD with
    | some ns => .ok (.val (.int (ns.count k : Nat))) s
    | none => .no
  | _ => .no
theorem jm_cnt : JM K ct H0 (rCnt K) fCnt := fun W S s σ H Hs x a vs ds Q rel i r p => by
  unfold fCnt at p
  split at p
  · rename_i k
    split at p
    · rename_i ns e
      obtain ⟨l, e1, e2⟩ := Option.bind_eq_some_iff.mp e
      obtain ⟨q, us, rfl, k1, k2⟩ := viewL_ok rel i e1
      cases r with
      | cons r1 r2 =>
        cases r2
        cases rp_int r1
        rw [ints_rp k2 e2] at k1
        exact ⟨q, ns, k, rfl, rfl, k1, p.val rel (.int _)⟩
    · exact False.elim p
  · exact False.elim p
/-- o[i] op= e, a list of ints -/
def mAugS (f : Int → Int → Int) (mo mi mv : Mo AI) : Ms := fun s => (mo s).toS fun a s1 => (mV mi s1).toS fun i s2 => match i with
  | .int k => (match (viewL s2 a).bind fun l => l[k.toNat]? with
    | some (.int x) => if 0 ≤ k then ((mv s2).toS fun b s3 => match b with
      | .val (.int y) => match setIt a (.int k) (.int (f x y)) s3 with
        | some s4 => .nx s4
        | none => .no
      | _ => .no) else .no
    | _ => .no)
  | _ => .no
theorem sv_augS {f : Int → Int → Int} {to ti te : TE} {mo mi mv : Mo AI} (ho : Ei K ct H0 W to mo) (hi : Ei K ct H0 W ti mi) (hv : Ei K ct H0 W te mv) : Sv K ct H0 W (tAugS to ti te (rGetL K) (ipI f) rSetY) (mAugS f mo mi mv) := fun S s σ H Dn rel p =>
  ho S s σ H _ rel (PstS.bind p fun S1 s1 H1 x a st1 rel1 i1 p1 => ev_of hi S1 s1 σ H1 _ rel1 (PstS.bind (PstS.from p1 st1) fun S2 s2 H2 y i st2 rel2 i2 p2 => by
    replace p2 := PstS.from p2 st2
    split at p2
    · rename_i k
      split at p2
      · rename_i x0 e
        split at p2
        · rename_i h0
          obtain ⟨l, e1, e2⟩ := Option.bind_eq_some_iff.mp e
          obtain ⟨q, us, rfl, k1, k2⟩ := viewL_ok rel2 (i1.step st2) e1
          cases rp_int i2
          obtain ⟨v, ev, rv⟩ := k2.get e2
          cases rp_int rv
          refine ⟨q, us, k, .int x0, rfl, rfl, k1, h0, ev, hv S2 s2 σ H2 _ rel2 (PstS.bind p2 fun S3 s3 H3 z b st3 rel3 i3 p3 => ?_)⟩
          replace p3 := PstS.from p3 st3
          split at p3
          · rename_i y0
            cases rp_int i3
            split at p3
            · rename_i s4 e4
              refine ⟨x0, y0, rfl, rfl, ?_⟩
              exact setIt_ok rel3 ((i1.step st2).step st3) (.int k) (.int (f x0 y0)) e4 fun H' st rl => p3 S3 σ H' st rl
            · exact False.elim p3
          · exact False.elim p3
        · exact False.elim p2
      · exact False.elim p2
    · exact False.elim p2))
end
section
variable {s : Stt} {QA : AI → Stt → Prop} {X : Exn → Stt → Prop} {N : Stt → Prop} {O : Rs → Prop}
theorem w_cntI {a : AI} {ns : List Int} {k : Int} (e : viewL s a = some (ns.map D.int)) (h : QA (.val (.int (ns.count k : Nat))) s) : Wo QA X (fCnt s a [.int k]) := by
  unfold fCnt; simp only []; rw [e, Option.bind_some, intsD_map]; exact h
theorem w_augS {f : Int → Int → Int} {mo mi mv : Mo AI} (h : Wo (fun a s1 => Wo (fun i s2 => ∃ (k x : Int) (l : List D), i = .int k ∧ viewL s2 a = some l ∧ l[k.toNat]? = some (.int x) ∧ 0 ≤ k ∧ Wo (fun b s3 => ∃ y, b = .val (.int y) ∧ So N (setIt a (.int k) (.int (f x y)) s3)) (fun x s => O (.er x s)) (mv s2)) (fun x s => O (.er x s)) (mV mi s1)) (fun x s => O (.er x s)) (mo s)) : Ws N O (mAugS f mo mi mv s) :=
  w_toS (w_mono h fun a s1 h => w_toS (w_mono h fun i s2 h => by
    obtain ⟨k, x, l, rfl, h1, h2, h3, h⟩ := h
    show Ws N O (match (viewL s2 a).bind fun l => l[k.toNat]? with
    | some (.int x) => if 0 ≤ k then ((mv s2).toS fun b s3 => match b with
      | .val (.int y) => match setIt a (.int k) (.int (f x y)) s3 with
        | some s4 => .nx s4
        | none => .no
      | _ => .no) else .no
    | _ => .no)
    rw [h1, Option.bind_some, h2]
    show Ws N O (if 0 ≤ k then _ else _)
    rw [if_pos h3]
    refine w_toS (w_mono h fun b s3 h => ?_)
    obtain ⟨y, rfl, h⟩ := h
    show Ws N O (match setIt a (.int k) (.int (f x y)) s3 with | some s4 => .nx s4 | none => .no)
    cases q : setIt a (.int k) (.int (f x y)) s3 <;> rw [q] at h <;> exact h))
end
end Y

/-! # dicts whose keys are tuples -/
namespace Y
open PySem L2 Z
section
variable {K : PySem.W.Frag} {ct : Ct} {H0 : Hp} {W : WX} {S : Sh} {s : Stt} {σ : St} {H : Hp}
theorem viewDT_ok {Hs : Hp} {v : V} {a : AI} {l : List (List Key × D)} (r : Rel K ct H0 S s σ H) (i : ItOk K ct Hs S s σ H v a) (e : viewDT s a = some l) : ∃ p kvs, v = .ref p ∧ Rd H p (.dT kvs) ∧ RpK K S.G S.α s.M.length kvs l := by
  have frz : ∀ {u : V} {d : D}, Rp K S.G S.α s.M.length u d → dictTOf s.M d = some l → ∃ p kvs, u = .ref p ∧ Rd H p (.dT kvs) ∧ RpK K S.G S.α s.M.length kvs l := fun {u d} h e => by
    cases d with
    | dT l' => cases e; cases h with | dT h1 h3 h2 => exact ⟨_, _, rfl, uT' (r.sub _ _ h1), .of h3 h2⟩
    | cid k =>
      cases h
      obtain ⟨c, q, e1⟩ := Option.bind_eq_some_iff.mp (show s.M[k]?.bind Cn.aT = some l from e)
      cases c with
      | dT l' =>
        cases e1
        obtain ⟨vs, h1, h3, h2⟩ := (r.ids k _ q).2
        exact ⟨_, vs, rfl, .inl h1, .of h3 h2⟩
      | _ => cases e1
    | _ => cases e
  have own : ∀ {p : Addr} {c : Cn}, CnOk K ct S s.M.length H p c → dictTOf s.M c.toD = some l → ∃ q kvs, V.ref p = .ref q ∧ Rd H q (.dT kvs) ∧ RpK K S.G S.α s.M.length kvs l := fun {p c} h e => by
    cases c with
    | dT l' => cases e; obtain ⟨vs, h1, h3, h2⟩ := h; exact ⟨p, vs, rfl, .inl h1, .of h3 h2⟩
    | lst l' => cases e
    | dK l' => cases e
    | obj _ _ => cases e
  unfold viewDT at e
  cases a with
  | val d => exact frz i e
  | new c =>
    obtain ⟨p, rfl, _, _, _, hc, h5⟩ := i
    exact own h5 e
  | slot j =>
    obtain ⟨d, q0, e⟩ := Option.bind_eq_some_iff.mp e
    obtain ⟨en, q1, rfl⟩ := Option.map_eq_some_iff.mp q0
    have q := entAt_eq q1
    have hi : σ[j]? = some (some v) := i
    have hh := r.slot j en q
    cases en with
    | fz d =>
      obtain ⟨v', h1, h2⟩ := hh
      rw [hi] at h1; cases h1
      exact frz h2 e
    | xn x => exact (entAt_xn q1).elim
    | ow c =>
      obtain ⟨p, h1, _, _, hc, h5⟩ := hh
      rw [hi] at h1; cases h1
      exact own h5 e
def keysD : List D → Option (List Key)
  | [] => some []
  | d :: l => (keyOf d).bind fun k => (keysD l).map (k :: ·)
def tkey : D → Option (List Key)
  | .tup l => keysD l
  | _ => none
theorem keysD_rp {G : Hp} {α : Nat → Addr} {n : Nat} : ∀ {l : List D} {vs : List V} {ks : List Key}, RpL K G α n vs l → keysD l = some ks → vs = ks.map kV
  | [], _, _, .nil, e => by cases e; rfl
  | d :: l, _, _, .cons h r, e => by
    obtain ⟨k, e1, e2⟩ := Option.bind_eq_some_iff.mp (show (keyOf d).bind (fun k => (keysD l).map (k :: ·)) = _ from e)
    obtain ⟨ks, e3, rfl⟩ := Option.map_eq_some_iff.mp e2
    rw [keyOf_rp h e1, keysD_rp r e3]; rfl
theorem tkey_rp {n : Nat} {v : V} {d : D} {ks : List Key} (rel : Rel K ct H0 S s σ H) (h : Rp K S.G S.α n v d) (e : tkey d = some ks) : ∃ b, v = .ref b ∧ H b = some (.tup (ks.map kV)) := by
  cases h with
  | tup h1 h2 =>
    refine ⟨_, rfl, ?_⟩
    rw [← keysD_rp h2 e]
    exact uP' (rel.sub _ _ h1)
  | _ => cases e
theorem dgetT_ok {n : Nat} {p b : Addr} {kvs : List (List Key × V)} {l : List (List Key × D)} {k : List Key} (h : Rd H p (.dT kvs)) (hb : H b = some (.tup (k.map kV))) (r : RpK K S.G S.α n kvs l) :
    (vl l k = none ∧ DGet H p (.ref b) none) ∨ ∃ v d, vl l k = some d ∧ DGet H p (.ref b) (some v) ∧ Rp K S.G S.α n v d := by
  have g : DGet H p (.ref b) (valV kvs k) := .inr ⟨kvs, k, b, h, rfl, hb, rfl⟩
  rcases r.get (k := k) with ⟨h1, h2⟩ | ⟨v, d, h1, h2, h3⟩
  · rw [h2] at g; exact .inl ⟨h1, g⟩
  · rw [h2] at g; exact .inr ⟨v, d, h1, g, h3⟩
def fIxDT : Stt → AI → AI → Ro AI := fun s a b => match viewDT s a, b with
  | some l, .val i => match (tkey i).bind (vl l) with
    | some d => .ok (.val d) s
    | none => .no
  | _, _ => .no
theorem j_ixDT : J2 K ct H0 (rIxY K) fIxDT := fun W S s σ H Hs Hs' x y a b Q rel ia ib p => by
  unfold fIxDT at p
  split at p
  · rename_i l i e1
    obtain ⟨q, kvs, rfl, h1, h2⟩ := viewDT_ok rel ia e1
    split at p
    · rename_i d e
      obtain ⟨k, ek, ev⟩ := Option.bind_eq_some_iff.mp e
      obtain ⟨b, rfl, hb⟩ := tkey_rp rel ib ek
      rcases dgetT_ok h1 hb h2 with ⟨h3, h4⟩ | ⟨v, d', h3, h4, h5⟩
      · rw [h3] at ev; cases ev
      · rw [h3] at ev; cases ev
        exact .inr ⟨q, v, rfl, h4, p.val rel h5⟩
    · exact False.elim p
  · exact False.elim p
def fInDT (g : Bool → Bool) : Stt → AI → AI → Ro AI := fun s a b => match a, viewDT s b with
  | .val i, some l => match tkey i with
    | some k => .ok (.val (.bl (g (vl l k).isSome))) s
    | none => .no
  | _, _ => .no
theorem inDT_ok {g : Bool → Bool} : J2 K ct H0 (rDIn g) (fInDT g) := fun W S s σ H Hs Hs' x y a b Q rel ia ib p => by
  unfold fInDT at p
  split at p
  · rename_i i l e1
    obtain ⟨q, kvs, rfl, h1, h2⟩ := viewDT_ok rel ib e1
    split at p
    · rename_i k ek
      obtain ⟨b, rfl, hb⟩ := tkey_rp rel ia ek
      rcases dgetT_ok h1 hb h2 with ⟨h3, h4⟩ | ⟨v, d', h3, h4, h5⟩
      · rw [h3] at p; exact ⟨q, _, rfl, h4, p.val rel (.bl _)⟩
      · rw [h3] at p; exact ⟨q, _, rfl, h4, p.val rel (.bl _)⟩
    · exact False.elim p
  · exact False.elim p
theorem j_inDT : J2 K ct H0 (rInY K) (fInDT id) := fun W S s σ H Hs Hs' x y a b Q rel ia ib p => .inr (inDT_ok W S s σ H Hs Hs' x y a b Q rel ia ib p)
theorem j_ninDT : J2 K ct H0 (rNinY K) (fInDT not) := fun W S s σ H Hs Hs' x y a b Q rel ia ib p => .inr (inDT_ok W S s σ H Hs Hs' x y a b Q rel ia ib p)
/-- o[i] = d -/
def setItT (a : AI) (i d : D) (s : Stt) : Option Stt := match getC s a with
  | some (.dT l) => (tkey i).bind fun k => if l.length < sizeLine then some (setC s a (.dT (pu l k d))) else none
  | _ => none
theorem setItT_ok {Hs : Hp} {x y v : V} {a : AI} {i d : D} {s' : Stt} {Q : Hp → Prop} (rel : Rel K ct H0 S s σ H) (ia : ItOk K ct Hs S s σ H x a) (ii : Rp K S.G S.α s.M.length y i) (id : Rp K S.G S.α s.M.length v d) (e : setItT a i d s = some s')
    (q : ∀ H', Stp S s.M.length H S s'.M.length H' → Rel K ct H0 S s' σ H' → Q H') : rSetY x y v H Q := by
  unfold setItT at e
  split at e
  · rename_i l eg
    obtain ⟨k, e1, e2⟩ := Option.bind_eq_some_iff.mp e
    split at e2
    · rename_i hz
      cases e2
      obtain ⟨p, rfl, ⟨us, h1, h3, h2⟩, h4⟩ := mut_ok rel ia eg
      obtain ⟨b, rfl, hb⟩ := tkey_rp rel ii e1
      have rk := RpK.of h3 h2
      have rk' := rk.put (k := k) id
      obtain ⟨r1, r2⟩ := h4 (.dT (putK us k v)) (.dT (pu l k d)) (fun _ => rfl) ⟨_, upd_same, rk'.keys, rk'.vals⟩
      exact .inr ⟨p, _, rfl, DPut.t h1 hb (by rw [rk.len]; exact hz), q _ r2 r1⟩
    · cases e2
  · cases e
def mAsgST (mo mi : Mo AI) (mv : Mo AI) : Ms := fun s => (mV mv s).toS fun d s1 => (mo s1).toS fun a s2 => (mV mi s2).toS fun i s3 => match setItT a i d s3 with
  | some s4 => .nx s4
  | none => .no
theorem sv_asgST {te to ti : TE} {mo mi mv : Mo AI} (hv : Ei K ct H0 W te mv) (ho : Ei K ct H0 W to mo) (hi : Ei K ct H0 W ti mi) : Sv K ct H0 W (tAsg te (gSub to ti rSetY)) (mAsgST mo mi mv) := fun S s σ H Dn rel p =>
  ev_of hv S s σ H _ rel (PstS.bind p fun S1 s1 H1 v d st1 rel1 i1 p1 => ho S1 s1 σ H1 _ rel1 (PstS.bind (PstS.from p1 st1) fun S2 s2 H2 x a st2 rel2 i2 p2 => ev_of hi S2 s2 σ H2 _ rel2 (PstS.bind (PstS.from p2 st2) fun S3 s3 H3 y i st3 rel3 i3 p3 => by
    have p3 := PstS.from p3 st3
    split at p3
    · rename_i s4 e
      exact setItT_ok rel3 (i2.step st3) i3 (Rp.step (st2.trans st3) i1) e fun H' st rl => p3 S3 σ H' st rl
    · exact False.elim p3)))
def mDNewT : Mo AI := fun s => .ok (.new (.dT [])) s
theorem ei_dnewT : Ei K ct H0 W tDNewT mDNewT := fun S s σ H Q rel p q hq => p.newC rel hq rfl ⟨[], upd_same, rfl, .nil⟩
/-- d.get(k), d.get(k, x) -/
def fGetT (s : Stt) (a : AI) (i x : D) : Ro AI := match viewDT s a with
  | some l => match tkey i with
    | some k => .ok (.val ((vl l k).getD x)) s
    | none => .no
  | none => .no
def mGet2T (mo mi mx : Mo AI) : Mo AI := fun s => (mo s).bind fun a s1 => match viewDT s1 a with
  | some _ => (mV mi s1).bind fun i s2 => (mV mx s2).bind fun x s3 => fGetT s3 a i x
  | none => .no
theorem ei_get2T {td ty tx : TE} {mo mi mx : Mo AI} (ho : Ei K ct H0 W td mo) (hi : Ei K ct H0 W ty mi) (hx : Ei K ct H0 W tx mx) : Ei K ct H0 W (tDGet2 td ty tx) (mGet2T mo mi mx) := fun S s σ H Q rel p =>
  ho S s σ H _ rel (Pst.bind bI p fun S1 s1 H1 x a st1 rel1 i1 p1 => by
    split at p1
    · rename_i l e
      obtain ⟨q, kvs, rfl, h1, h2⟩ := viewDT_ok rel1 i1 e
      refine ⟨q, rfl, .inr ⟨kvs, h1⟩, ev_of hi S1 s1 σ H1 _ rel1 (Pst.bind bI p1 fun S2 s2 H2 y i st2 rel2 i2 p2 => ev_of hx S2 s2 σ H2 _ rel2 (Pst.bind bI p2 fun S3 s3 H3 z xd st3 rel3 i3 p3 => ?_))⟩
      unfold fGetT at p3
      split at p3
      · rename_i l' e'
        split at p3
        · rename_i k ek
          obtain ⟨q', kvs', eq', g1, g2⟩ := viewDT_ok rel3 ((i1.step st2).step st3) e'
          cases eq'
          obtain ⟨b, rfl, hb⟩ := tkey_rp rel3 (Rp.step st3 i2) ek
          rcases dgetT_ok g1 hb g2 with ⟨z1, z2⟩ | ⟨v, d0, z1, z2, z3⟩
          · rw [z1] at p3; exact ⟨none, z2, p3.val rel3 i3⟩
          · rw [z1] at p3; exact ⟨some v, z2, p3.val rel3 z3⟩
        · exact False.elim p3
      · exact False.elim p3
    · exact False.elim p1)
def mGet1T (mo mi : Mo AI) : Mo AI := fun s => (mo s).bind fun a s1 => match viewDT s1 a with
  | some _ => (mV mi s1).bind fun i s2 => fGetT s2 a i .non
  | none => .no
theorem ei_get1T {td ty : TE} {mo mi : Mo AI} (ho : Ei K ct H0 W td mo) (hi : Ei K ct H0 W ty mi) : Ei K ct H0 W (tDGet1 td ty) (mGet1T mo mi) := fun S s σ H Q rel p =>
  ho S s σ H _ rel (Pst.bind bI p fun S1 s1 H1 x a st1 rel1 i1 p1 => by
    split at p1
    · rename_i l e
      obtain ⟨q, kvs, rfl, h1, h2⟩ := viewDT_ok rel1 i1 e
      refine ⟨q, rfl, .inr ⟨kvs, h1⟩, ev_of hi S1 s1 σ H1 _ rel1 (Pst.bind bI p1 fun S2 s2 H2 y i st2 rel2 i2 p2 => ?_)⟩
      unfold fGetT at p2
      split at p2
      · rename_i l' e'
        split at p2
        · rename_i k ek
          obtain ⟨q', kvs', eq', g1, g2⟩ := viewDT_ok rel2 (i1.step st2) e'
          cases eq'
          obtain ⟨b, rfl, hb⟩ := tkey_rp rel2 i2 ek
          rcases dgetT_ok g1 hb g2 with ⟨z1, z2⟩ | ⟨v, d0, z1, z2, z3⟩
          · rw [z1] at p2; exact ⟨none, z2, p2.val rel2 .non⟩
          · rw [z1] at p2; exact ⟨some v, z2, p2.val rel2 z3⟩
        · exact False.elim p2
      · exact False.elim p2
    · exact False.elim p1)
/-- d.get(k) of a dict with plain keys -/
def mGet1 (mo mi : Mo AI) : Mo AI := fun s => (mo s).bind fun a s1 => match viewD s1 a with
  | some _ => (mV mi s1).bind fun i s2 => fGet s2 a i .non
  | none => .no
theorem ei_get1 {td ty : TE} {mo mi : Mo AI} (ho : Ei K ct H0 W td mo) (hi : Ei K ct H0 W ty mi) : Ei K ct H0 W (tDGet1 td ty) (mGet1 mo mi) := fun S s σ H Q rel p =>
  ho S s σ H _ rel (Pst.bind bI p fun S1 s1 H1 x a st1 rel1 i1 p1 => by
    split at p1
    · rename_i l e
      obtain ⟨q, kvs, rfl, h1, h2⟩ := viewD_ok rel1 i1 e
      refine ⟨q, rfl, .inl ⟨kvs, h1⟩, ev_of hi S1 s1 σ H1 _ rel1 (Pst.bind bI p1 fun S2 s2 H2 y i st2 rel2 i2 p2 => ?_)⟩
      unfold fGet at p2
      split at p2
      · rename_i l' e'
        split at p2
        · rename_i k ek
          obtain ⟨q', kvs', eq', g1, g2⟩ := viewD_ok rel2 (i1.step st2) e'
          cases eq'
          rw [keyOf_rp i2 ek]
          rcases dget_ok (k := k) g1 g2 with ⟨z1, z2⟩ | ⟨v, d0, z1, z2, z3⟩
          · rw [z1] at p2; exact ⟨none, z2, p2.val rel2 .non⟩
          · rw [z1] at p2; exact ⟨some v, z2, p2.val rel2 z3⟩
        · exact False.elim p2
      · exact False.elim p2
    · exact False.elim p1)
end
/-! ## steps -/
section
variable {s : Stt} {X : Exn → Stt → Prop} {QA : AI → Stt → Prop} {N : Stt → Prop} {O : Rs → Prop} {m1 m2 m3 : Mo AI}
theorem w_dnewT (h : QA (.new (.dT [])) s) : Wo QA X (mDNewT s) := h
theorem w_ixDT {a : AI} {i d : D} {l : List (List Key × D)} {k : List Key} (e0 : viewDT s a = some l) (ek : tkey i = some k) (e : vl l k = some d) (h : QA (.val d) s) : Wo QA X (fIxDT s a (.val i)) := by
  unfold fIxDT; rw [e0]; simp only []; rw [ek, Option.bind_some, e]; exact h
theorem w_inDT {g : Bool → Bool} {b : AI} {i : D} {l : List (List Key × D)} {k : List Key} (e0 : viewDT s b = some l) (ek : tkey i = some k) (h : QA (.val (.bl (g (vl l k).isSome))) s) : Wo QA X (fInDT g s (.val i) b) := by
  unfold fInDT; rw [e0]; simp only []; rw [ek]; exact h
theorem so_setT {a : AI} {i d : D} {l : List (List Key × D)} {k : List Key} (e : getC s a = some (.dT l)) (e2 : tkey i = some k) (hz : l.length < sizeLine) (h : N (setC s a (.dT (pu l k d)))) : So N (setItT a i d s) := by
  unfold setItT; rw [e]; simp only []; rw [e2, Option.bind_some, if_pos hz]; exact h
theorem w_asgST (h : Wo (fun d s1 => Wo (fun a s2 => Wo (fun i s3 => So N (setItT a i d s3)) (fun x s => O (.er x s)) (mV m2 s2)) (fun x s => O (.er x s)) (m1 s1)) (fun x s => O (.er x s)) (mV m3 s)) : Ws N O (mAsgST m1 m2 m3 s) :=
  w_toS (w_mono h fun d s1 h => w_toS (w_mono h fun a s2 h => w_toS (w_mono h fun i s3 h => by
    show Ws N O (match setItT a i d s3 with | some s4 => _ | none => _)
    cases e : setItT a i d s3 with
    | none => rw [e] at h; exact h.elim
    | some s4 => rw [e] at h; exact h)))
theorem w_get2T (h : Wo (fun a s1 => (∃ l, viewDT s1 a = some l) ∧ Wo (fun i s2 => Wo (fun x s3 => ∃ l k, viewDT s3 a = some l ∧ tkey i = some k ∧ QA (.val ((vl l k).getD x)) s3) X (mV m3 s2)) X (mV m2 s1)) X (m1 s)) : Wo QA X (mGet2T m1 m2 m3 s) := w_bind (w_mono h fun a s1 ⟨⟨l, e⟩, h⟩ => by
  show Wo QA X (match viewDT s1 a with | some _ => _ | none => _)
  rw [e]
  exact w_bind (w_mono h fun i s2 h => w_bind (w_mono h fun x s3 ⟨l', k, e1, e2, h⟩ => by
    unfold fGetT; rw [e1]; simp only []; rw [e2]; exact h)))
theorem w_get1T (h : Wo (fun a s1 => (∃ l, viewDT s1 a = some l) ∧ Wo (fun i s2 => ∃ l k, viewDT s2 a = some l ∧ tkey i = some k ∧ QA (.val ((vl l k).getD .non)) s2) X (mV m2 s1)) X (m1 s)) : Wo QA X (mGet1T m1 m2 s) := w_bind (w_mono h fun a s1 ⟨⟨l, e⟩, h⟩ => by
  show Wo QA X (match viewDT s1 a with | some _ => _ | none => _)
  rw [e]
  exact w_bind (w_mono h fun i s2 ⟨l', k, e1, e2, h⟩ => by
    show Wo QA X (fGetT s2 a i .non)
    unfold fGetT; rw [e1]; simp only []; rw [e2]; exact h))
theorem w_get1 (h : Wo (fun a s1 => (∃ l, viewD s1 a = some l) ∧ Wo (fun i s2 => ∃ l k, viewD s2 a = some l ∧ keyOf i = some k ∧ QA (.val ((vl l k).getD .non)) s2) X (mV m2 s1)) X (m1 s)) : Wo QA X (mGet1 m1 m2 s) := w_bind (w_mono h fun a s1 ⟨⟨l, e⟩, h⟩ => by
  show Wo QA X (match viewD s1 a with | some _ => _ | none => _)
  rw [e]
  exact w_bind (w_mono h fun i s2 ⟨l', k, e1, e2, h⟩ => by
    show Wo QA X (fGet s2 a i .non)
    unfold fGet; rw [e1]; simp only []; rw [e2]; exact h))
theorem viewDT_cid {k : Nat} {l : List (List Key × D)} (h : s.M[k]? = some (.dT l)) : viewDT s (.val (.cid k)) = some l := by
  show s.M[k]?.bind Cn.aT = some l; rw [h]; rfl
end
end Y

/-! # calls that touch nothing of what is there: what they tell is data -/
namespace Y
open PySem L2 Z
def mapO {α β : Type} (g : α → Option β) : List α → Option (List β)
  | [] => some []
  | d :: l => (g d).bind fun d' => (mapO g l).map (d' :: ·)
theorem mapO_len {α β : Type} {g : α → Option β} : ∀ {l : List α} {l' : List β}, mapO g l = some l' → l'.length = l.length
  | [], _, e => by cases e; rfl
  | d :: l, _, e => by
    obtain ⟨d', _, e2⟩ := Option.bind_eq_some_iff.mp (show (g d).bind (fun d' => (mapO g l).map (d' :: ·)) = _ from e)
    obtain ⟨r, e3, rfl⟩ := Option.map_eq_some_iff.mp e2
    rw [List.length_cons, List.length_cons, mapO_len e3]
theorem mapO_map {α β γ : Type} {g : β → Option γ} {f : α → β} {h : α → γ} (e : ∀ a, g (f a) = some (h a)) : ∀ l : List α, mapO g (l.map f) = some (l.map h)
  | [] => rfl
  | a :: l => by show (g (f a)).bind _ = _; rw [e a, Option.bind_some, mapO_map e l]; rfl
theorem mapO_app {α β : Type} {g : α → Option β} : ∀ {l m : List α} {l' m' : List β}, mapO g l = some l' → mapO g m = some m' → mapO g (l ++ m) = some (l' ++ m')
  | [], _, _, _, e, e2 => by cases e; exact e2
  | d :: l, m, _, m', e, e2 => by
    obtain ⟨d', e0, e1⟩ := Option.bind_eq_some_iff.mp (show (g d).bind (fun d' => (mapO g l).map (d' :: ·)) = _ from e)
    obtain ⟨r, e3, rfl⟩ := Option.map_eq_some_iff.mp e1
    show (g d).bind _ = _
    rw [e0, Option.bind_some, show mapO g (l.append m) = mapO g (l ++ m) from rfl, mapO_app e3 e2]; rfl
/-- what stands behind ids, as data -/
def rsv : Nat → List Cn → D → Option D
  | 0, _, _ => none
  | f + 1, M, .cid k => match M[k]? with
    | some (.lst l) => (mapO (rsv f M) l).map .lst
    | some (.dK l) => (mapO (rsv f M) (l.map Prod.snd)).map fun vs => .dK ((l.map Prod.fst).zip vs)
    | some (.dT l) => (mapO (rsv f M) (l.map Prod.snd)).map fun vs => .dT ((l.map Prod.fst).zip vs)
    | _ => none
  | f + 1, M, .tup l => (mapO (rsv f M) l).map .tup
  | f + 1, M, .ctp l => (mapO (rsv f M) l).map .ctp
  | f + 1, M, .lst l => (mapO (rsv f M) l).map .lst
  | f + 1, M, .clst l => (mapO (rsv f M) l).map .clst
  | f + 1, M, .dK l => (mapO (rsv f M) (l.map Prod.snd)).map fun vs => .dK ((l.map Prod.fst).zip vs)
  | f + 1, M, .dT l => (mapO (rsv f M) (l.map Prod.snd)).map fun vs => .dT ((l.map Prod.fst).zip vs)
  | _ + 1, _, .non => some .non
  | _ + 1, _, .bl b => some (.bl b)
  | _ + 1, _, .int i => some (.int i)
  | _ + 1, _, .str x => some (.str x)
  | _ + 1, _, .ty n => some (.ty n)
def fzo : Option HO → Option HO
  | some (.lst vs) => some (.lst vs)
  | some (.dK vs) => some (.dK vs)
  | some (.dT vs) => some (.dT vs)
  | _ => none
def Sh.Gf (S : Sh) (H : Hp) : Hp := fun a => match S.G a with
  | some o => some o
  | none => match S.lab a with
    | some (.id _) => fzo (H a)
    | _ => none
section
variable {K : PySem.W.Frag} {ct : Ct} {H0 : Hp} {W : WX} {S : Sh} {s : Stt} {σ : St} {H : Hp}
theorem gf_old : Same S.G (S.Gf H) := fun a o e => by unfold Sh.Gf; rw [e]
theorem gf_id {a : Addr} {k : Nat} {o : HO} (hg : S.G a = none) (hl : S.lab a = some (.id k)) (h : fzo (H a) = some o) : S.Gf H a = some o := by unfold Sh.Gf; rw [hg]; simp only []; rw [hl]; exact h
theorem gf_none {a : Addr} (hg : S.G a = none) (hl : S.lab a = none) : S.Gf H a = none := by unfold Sh.Gf; rw [hg]; simp only []; rw [hl]
theorem gf_sub (r : Rel K ct H0 S s σ H) : Same (S.Gf H) (U ct.lk H) := fun a o e => by
  unfold Sh.Gf at e
  split at e
  · rename_i u q; cases e; exact r.sub a _ q
  · split at e
    · unfold fzo at e
      split at e
      · rename_i vs q; cases e; exact uL q
      · rename_i vs q; cases e; exact uK q
      · rename_i vs q; cases e; exact uT q
      · cases e
    · cases e
theorem zip_fst {β : Type} : ∀ {ks : List β} {vs : List D}, vs.length = ks.length → (ks.zip vs).map Prod.fst = ks ∧ (ks.zip vs).map Prod.snd = vs
  | [], [], _ => ⟨rfl, rfl⟩
  | k :: ks, v :: vs, e => by
    obtain ⟨h1, h2⟩ := zip_fst (ks := ks) (vs := vs) (by simpa using e)
    exact ⟨by rw [List.zip_cons_cons, List.map_cons, h1], by rw [List.zip_cons_cons, List.map_cons, h2]⟩
theorem rsv_ok {β : Nat → Addr} (r : Rel K ct H0 S s σ H) : ∀ (f : Nat) {v : V} {d d' : D}, Rp K S.G S.α s.M.length v d → rsv f s.M d = some d' → Rp K (S.Gf H) β 0 v d'
  | 0, _, _, _, _, e => by cases e
  | f + 1, v, d, d', h, e => by
    have all : ∀ {l l' : List D} {vs : List V}, RpL K S.G S.α s.M.length vs l → mapO (rsv f s.M) l = some l' → RpL K (S.Gf H) β 0 vs l' := by
      intro l
      induction l with
      | nil => intro l' vs h e; cases e; cases h; exact .nil
      | cons d l ih =>
        intro l' vs h e
        obtain ⟨d', e1, e2⟩ := Option.bind_eq_some_iff.mp (show (rsv f s.M d).bind (fun d' => (mapO (rsv f s.M) l).map (d' :: ·)) = _ from e)
        obtain ⟨r', e3, rfl⟩ := Option.map_eq_some_iff.mp e2
        cases h with
        | cons h hr => exact .cons (rsv_ok r f h e1) (ih hr e3)
    cases h with
    | non => cases e; exact .non
    | bl b => cases e; exact .bl b
    | int b => cases e; exact .int b
    | str b => cases e; exact .str b
    | ty b => cases e; exact .ty b
    | tup h1 h2 => obtain ⟨l', e1, rfl⟩ := Option.map_eq_some_iff.mp e; exact .tup (gf_old _ _ h1) (all h2 e1)
    | ctp h1 h2 => obtain ⟨l', e1, rfl⟩ := Option.map_eq_some_iff.mp e; exact .ctp (st_mono gf_old h1) (all h2 e1)
    | lst h1 h2 => obtain ⟨l', e1, rfl⟩ := Option.map_eq_some_iff.mp e; exact .lst (gf_old _ _ h1) (all h2 e1)
    | clst h1 h2 => obtain ⟨l', e1, rfl⟩ := Option.map_eq_some_iff.mp e; exact .clst (gf_old.seq h1) (all h2 e1)
    | dK h1 h3 h2 =>
      obtain ⟨l', e1, rfl⟩ := Option.map_eq_some_iff.mp e
      have z := zip_fst (ks := _) (vs := l') (show l'.length = (List.map Prod.fst _).length by rw [mapO_len e1, List.length_map, List.length_map])
      exact .dK (gf_old _ _ h1) (by rw [z.1]; exact h3) (by rw [z.2]; exact all h2 e1)
    | dT h1 h3 h2 =>
      obtain ⟨l', e1, rfl⟩ := Option.map_eq_some_iff.mp e
      have z := zip_fst (ks := _) (vs := l') (show l'.length = (List.map Prod.fst _).length by rw [mapO_len e1, List.length_map, List.length_map])
      exact .dT (gf_old _ _ h1) (by rw [z.1]; exact h3) (by rw [z.2]; exact all h2 e1)
    | cid hk =>
      rename_i k
      unfold rsv at e
      split at e
      · rename_i l q
        obtain ⟨l', e1, rfl⟩ := Option.map_eq_some_iff.mp e
        obtain ⟨i1, vs, i2, i3⟩ := r.ids k _ q
        exact .lst (gf_id (r.lg _ _ i1).1 i1 (by rw [i2]; rfl)) (all i3 e1)
      · rename_i l q
        obtain ⟨l', e1, rfl⟩ := Option.map_eq_some_iff.mp e
        obtain ⟨i1, vs, i2, i3, i4⟩ := r.ids k _ q
        have z := zip_fst (ks := _) (vs := l') (show l'.length = (List.map Prod.fst _).length by rw [mapO_len e1, List.length_map, List.length_map])
        exact .dK (gf_id (r.lg _ _ i1).1 i1 (by rw [i2]; rfl)) (by rw [z.1]; exact i3) (by rw [z.2]; exact all i4 e1)
      · rename_i l q
        obtain ⟨l', e1, rfl⟩ := Option.map_eq_some_iff.mp e
        obtain ⟨i1, vs, i2, i3, i4⟩ := r.ids k _ q
        have z := zip_fst (ks := _) (vs := l') (show l'.length = (List.map Prod.fst _).length by rw [mapO_len e1, List.length_map, List.length_map])
        exact .dT (gf_id (r.lg _ _ i1).1 i1 (by rw [i2]; rfl)) (by rw [z.1]; exact i3) (by rw [z.2]; exact all i4 e1)
      · cases e
theorem rsvL_ok {β : Nat → Addr} (r : Rel K ct H0 S s σ H) (f : Nat) : ∀ {l l' : List D} {vs : List V}, RpL K S.G S.α s.M.length vs l → mapO (rsv f s.M) l = some l' → RpL K (S.Gf H) β 0 vs l'
  | [], _, _, .nil, e => by cases e; exact .nil
  | d :: l, _, _, .cons h hr, e => by
    obtain ⟨d', e1, e2⟩ := Option.bind_eq_some_iff.mp (show (rsv f s.M d).bind (fun d' => (mapO (rsv f s.M) l).map (d' :: ·)) = _ from e)
    obtain ⟨r', e3, rfl⟩ := Option.map_eq_some_iff.mp e2
    exact .cons (rsv_ok r f h e1) (rsvL_ok r f hr e3)
/-- behind such a call -/
theorem pure_back {S' : Sh} {M' : List Cn} {H' : Hp} (r : Rel K ct H0 S s σ H) (st : Stp ⟨S.G, S.α, fun _ => none⟩ 0 H S' M'.length H') (r' : Rel K ct H S' ⟨[], M'⟩ [] H') :
    Rel K ct H0 ⟨S'.Gf H', S.α, S.lab⟩ s σ H' ∧ Stp S s.M.length H ⟨S'.Gf H', S.α, S.lab⟩ s.M.length H' := by
  have k : ∀ a o, H a = some o → H' a = some o ∧ S'.lab a = none := fun a o e => st.fr a o e rfl
  have g : Same S.G (S'.Gf H') := fun a o e => gf_old _ _ (st.g a o e)
  have gno : ∀ a o, H a = some o → S.G a = none → S'.Gf H' a = none := fun a o e e2 => gf_none (by
    cases q : S'.G a with
    | none => rfl
    | some u =>
      rcases st.gn a u q with z | z | ⟨l, z⟩
      · have z : S.G a = some u := z; rw [e2] at z; cases z
      · rw [e] at z; cases z
      · cases z) (k a o e).2
  refine ⟨⟨gf_sub r', fun a l q => ?_, fun a e => r.dom a (st.dom a e), r.len, fun i e q => ?_, fun i c q => ?_⟩, ⟨g, Nat.le_refl _, fun _ _ => rfl, fun a o e l => ⟨(k a o e).1, l⟩, fun a o e => ?_, st.dom⟩⟩
  · obtain ⟨h1, o, h2⟩ := r.lg a l q
    exact ⟨gno a o h2 h1, o, (k a o h2).1⟩
  · have hh := r.slot i e q
    cases e with
    | fz d => obtain ⟨v, h1, h2⟩ := hh; exact ⟨v, h1, h2.mono g (fun _ _ => rfl) (Nat.le_refl _)⟩
    | xn x => exact xn_mono (S := S) (n := s.M.length) (H := H) g (fun _ _ => rfl) (Nat.le_refl _) rfl hh
    | ow c =>
      obtain ⟨p, h1, h2, h3, h4, h5⟩ := hh
      exact ⟨p, h1, h2, h3, h4, h5.mono g (fun _ _ => rfl) (Nat.le_refl _) (fun o e => (k p o e).1)⟩
  · obtain ⟨h1, h2⟩ := r.ids i c q
    exact ⟨h1, h2.mono g (fun _ _ => rfl) (Nat.le_refl _) (fun o e => (k _ o e).1)⟩
  · have e : S'.Gf H' a = some o := e
    unfold Sh.Gf at e
    split at e
    · rename_i u q
      cases e
      rcases st.gn a _ q with z | z | ⟨l, z⟩
      · exact .inl z
      · exact .inr (.inl z)
      · cases z
    · split at e
      · rename_i q
        refine .inr (.inl ?_)
        cases q2 : H a with
        | none => rfl
        | some u => rw [(k a u q2).2] at q; cases q
      · cases e
def pureR (r : Fr) (s : Stt) : Ro AI := match r with
  | .ok (.val d) M' => match rsv 9 M' d with
    | some d' => .ok (.val d') s
    | none => .no
  | .ok (.new (.lst l)) M' => match mapO (rsv 9 M') l with
    | some l' => .ok (.new (.lst l')) s
    | none => .no
  | .er x M' => match mapO (rsv 9 M') (x.fs.map Prod.snd) with
    | some vs => .er ⟨x.cls, (x.fs.map Prod.fst).zip vs⟩ s
    | none => .no
  | _ => .no
def mCallP (f : Mf) (m : Mo (List D)) : Mo AI := fun s => (m s).bind fun ds s1 => if D.noIdL ds = true then (match f ds [] with
  | .er _ _ => .no
  | r => pureR r s1) else .no
def mCallPS (f : Mf) (m : Mo (List D)) : Mo AI := fun s => (m s).bind fun ds s1 => if D.noIdL ds = true then pureR (f ds []) s1 else .no
theorem pure_st : Rel K ct H ⟨S.G, S.α, fun _ => none⟩ ⟨[], []⟩ [] H → True := fun _ => trivial
theorem pure_in (r : Rel K ct H0 S s σ H) : Rel K ct H ⟨S.G, S.α, fun _ => none⟩ ⟨[], []⟩ [] H := ⟨r.sub, (fun a l e => nomatch e), fun _ e => e, rfl, (fun i e q => by simp at q), (fun k c q => by simp at q)⟩
theorem pure_ok {Q : VK} {r : Fr} {a : AI} {M' : List Cn} (er : r = .ok a M') (rel : Rel K ct H0 S s σ H) (p : Pst K ct H0 (RI K ct) W S s σ H Q (pureR r s)) {S' : Sh} {v : V} {H' : Hp} (st : Stp ⟨S.G, S.α, fun _ => none⟩ 0 H S' M'.length H') (r' : Rel K ct H S' ⟨[], M'⟩ [] H') (it : ItOk K ct H S' ⟨[], M'⟩ [] H' v a) : Q v H' := by
  obtain ⟨b1, b2⟩ := pure_back rel st r'
  subst er
  cases a with
  | slot j => simp [ItOk] at it
  | val d =>
    unfold pureR at p
    simp only [] at p
    split at p
    · rename_i d' e
      refine p _ v H' b2 b1 ?_
      exact (rsv_ok (β := S.α) r' 9 it e).mono (fun _ _ e => e) (fun _ _ => rfl) (Nat.zero_le _)
    · exact False.elim p
  | new c =>
    obtain ⟨q, rfl, h1, h2, h3, h4, h5⟩ := it
    cases c with
    | lst l =>
      unfold pureR at p
      simp only [] at p
      split at p
      · rename_i l' e
        obtain ⟨vs, h6, h7⟩ := h5
        refine p _ _ H' b2 b1 ⟨q, rfl, h1, rel.labN h1, gf_none h3 h2, rfl, vs, h6, ?_⟩
        exact (rsvL_ok (β := S.α) r' 9 h7 e).mono (fun _ _ e => e) (fun _ _ => rfl) (Nat.zero_le _)
      · exact False.elim p
    | _ => exact False.elim p
theorem ei_callP {f : Mf} {E : XK} {t : TA} {m : Mo (List D)} (h : EvL K ct H0 W t m) : Ei K ct H0 W (tCallZ (spM K ct f) E t) (mCallP f m) := fun S s σ H Q rel p =>
  h S s σ H _ rel (Pst.bind bI p fun S1 s1 H1 vs ds st1 rel1 i1 p1 => by
    split at p1
    · rename_i hn
      refine ⟨_, [], ds, pure_in rel1, RpL.noId i1 hn, ?_⟩
      generalize hf : f ds [] = r at p1
      cases r with
      | no => exact False.elim p1
      | er x M' => exact False.elim p1
      | ok a M' => intro S' v H' st r' it; exact pure_ok (r := .ok a M') rfl rel1 p1 st r' it
    · exact False.elim p1)
theorem pure_er {x : Exn} {M' : List Cn} {Q : VK} (rel : Rel K ct H0 S s σ H) (p : Pst K ct H0 (RI K ct) W S s σ H Q (pureR (.er x M') s)) {S' : Sh} {H' : Hp} {dd : Option Addr} (st : Stp ⟨S.G, S.α, fun _ => none⟩ 0 H S' M'.length H') (r' : Rel K ct H S' ⟨[], M'⟩ [] H') (xo : XOk K S' M'.length H' x dd) : W (.ref (ct x.cls)) dd σ H' := by
  obtain ⟨b1, b2⟩ := pure_back rel st r'
  unfold pureR at p
  simp only [] at p
  split at p
  · rename_i vs e
    refine p _ H' dd b2 b1 ?_
    rcases xo with ⟨h1, h2⟩ | ⟨d, fvs, h1, h2, h3, h4⟩
    · refine .inl ⟨?_, h2⟩
      rw [h1]; rfl
    · have z := zip_fst (ks := x.fs.map Prod.fst) (vs := vs) (by rw [mapO_len e, List.length_map, List.length_map])
      refine .inr ⟨d, fvs, h1, gf_old _ _ h2, by rw [z.1]; exact h3, ?_⟩
      rw [z.2]
      exact (rsvL_ok (β := S.α) r' 9 h4 e).mono (fun _ _ e => e) (fun _ _ => rfl) (Nat.zero_le _)
  · exact False.elim p
theorem ei_callPS {f : Mf} {t : TA} {m : Mo (List D)} (h : EvL K ct H0 W t m) : Ei K ct H0 W (tCallS (spM K ct f) (WE W) t) (mCallPS f m) := fun S s σ H Q rel p =>
  h S s σ H _ rel (Pst.bind bI p fun S1 s1 H1 vs ds st1 rel1 i1 p1 => by
    split at p1
    · rename_i hn
      refine ⟨_, [], ds, pure_in rel1, RpL.noId i1 hn, ?_⟩
      generalize hf : f ds [] = r at p1
      cases r with
      | no => exact False.elim p1
      | er x M' => intro S' H' dd st r' xo; exact pure_er rel1 p1 st r' xo
      | ok a M' => intro S' v H' st r' it; exact pure_ok (r := .ok a M') rfl rel1 p1 st r' it
    · exact False.elim p1)
end
/-! ## steps -/
/-- what a pure call tells -/
def Pf (P : AI → Prop) (E : Exn → Prop) : Fr → Prop
  | .ok (.val d) M' => ∃ d', rsv 9 M' d = some d' ∧ P (.val d')
  | .ok (.new (.lst l)) M' => ∃ l', mapO (rsv 9 M') l = some l' ∧ P (.new (.lst l'))
  | .er x M' => ∃ vs, mapO (rsv 9 M') (x.fs.map Prod.snd) = some vs ∧ E ⟨x.cls, (x.fs.map Prod.fst).zip vs⟩
  | _ => False
section
variable {s : Stt} {X : Exn → Stt → Prop} {QA : AI → Stt → Prop} {f : Mf} {ma : Mo (List D)}
theorem w_pureR {r : Fr} (h : Pf (fun a => QA a s) (fun x => X x s) r) : Wo QA X (pureR r s) := by
  unfold pureR
  cases r with
  | no => exact h.elim
  | er x M' => obtain ⟨vs, e, h⟩ := h; simp only []; rw [e]; exact h
  | ok a M' =>
    cases a with
    | val d => obtain ⟨vs, e, h⟩ := h; simp only []; rw [e]; exact h
    | slot j => exact h.elim
    | new c =>
      cases c with
      | lst l => obtain ⟨vs, e, h⟩ := h; simp only []; rw [e]; exact h
      | _ => exact h.elim
theorem w_callP (h : Wo (fun ds s1 => D.noIdL ds = true ∧ Pf (fun a => QA a s1) (fun _ => False) (f ds [])) X (ma s)) : Wo QA X (mCallP f ma s) := w_bind (w_mono h fun ds s1 ⟨e, h⟩ => by
  show Wo QA X (if D.noIdL ds = true then _ else _)
  rw [if_pos e]
  generalize f ds [] = r at h ⊢
  cases r with
  | no => exact h.elim
  | er x M' => obtain ⟨_, _, h⟩ := h; exact h.elim
  | ok a M' => exact w_pureR (show Pf (fun a => QA a s1) (fun x => X x s1) (.ok a M') from by
      cases a with
      | val d => exact h
      | slot j => exact h.elim
      | new c =>
        cases c with
        | lst l => exact h
        | _ => exact h.elim))
theorem w_callPS (h : Wo (fun ds s1 => D.noIdL ds = true ∧ Pf (fun a => QA a s1) (fun x => X x s1) (f ds [])) X (ma s)) : Wo QA X (mCallPS f ma s) := w_bind (w_mono h fun ds s1 ⟨e, h⟩ => by
  show Wo QA X (if D.noIdL ds = true then _ else _)
  rw [if_pos e]
  exact w_pureR h)
theorem pf_use {P P' : AI → Prop} {E E' : Exn → Prop} {r : Fr} (h : Pf P E r) (k : ∀ a, P a → P' a) (k2 : ∀ x, E x → E' x) : Pf P' E' r := by
  cases r with
  | no => exact h.elim
  | er x M' => obtain ⟨vs, e, h⟩ := h; exact ⟨vs, e, k2 _ h⟩
  | ok a M' =>
    cases a with
    | val d => obtain ⟨vs, e, h⟩ := h; exact ⟨vs, e, k _ h⟩
    | slot j => exact h.elim
    | new c =>
      cases c with
      | lst l => obtain ⟨vs, e, h⟩ := h; exact ⟨vs, e, k _ h⟩
      | _ => exact h.elim
/-- a def that tells data without ids -/
theorem pf_fx {P : AI → Prop} {E : Exn → Prop} {r : Fr} (h : Fx (fun a M' => Pf P E (.ok a M')) (fun x M' => Pf P E (.er x M')) r) : Pf P E r := by
  cases r with
  | no => exact h.elim
  | er x M' => exact h
  | ok a M' => exact h
theorem pf_fo {P : AI → Prop} {E : Exn → Prop} {r : Fr} (h : Fo (fun a M' => Pf P E (.ok a M')) r) : Pf P E r := by
  cases r with
  | no => exact h.elim
  | er x M' => exact h.elim
  | ok a M' => exact h
theorem rsv_int (f : Nat) (M : List Cn) (i : Int) : rsv (f + 1) M (.int i) = some (.int i) := rfl
theorem rsv_ints (f : Nat) (M : List Cn) (ns : List Int) : mapO (rsv (f + 1) M) (ns.map D.int) = some (ns.map D.int) := mapO_map (fun i => rsv_int f M i) ns
theorem rsv_lints (f : Nat) (M : List Cn) (ns : List Int) : rsv (f + 2) M (.lst (ns.map D.int)) = some (.lst (ns.map D.int)) := by
  show (mapO (rsv (f + 1) M) (ns.map D.int)).map D.lst = _
  rw [rsv_ints]; rfl
theorem rsv_cints {f : Nat} {M : List Cn} {k : Nat} {ns : List Int} (h : M[k]? = some (.lst (ns.map D.int))) : rsv (f + 2) M (.cid k) = some (.lst (ns.map D.int)) := by
  unfold rsv
  rw [h]
  show (mapO (rsv (f + 1) M) (ns.map D.int)).map D.lst = _
  rw [rsv_ints]; rfl
end
end Y

/-! # cells of the memory, by what is known of them -/
namespace Y
open PySem L2 Z
theorem viewL_cid {s : Stt} {k : Nat} {l : List D} (h : s.M[k]? = some (.lst l)) : viewL s (.val (.cid k)) = some l := by
  show s.M[k]?.bind Cn.aL = some l; rw [h]; rfl
theorem viewD_cid {s : Stt} {k : Nat} {l : List D} (h : s.M[k]? = some (.lst l)) : viewD s (.val (.cid k)) = none := by
  show s.M[k]?.bind Cn.aK = none; rw [h]; rfl
theorem lenD_cid {M : List Cn} {k : Nat} {l : List D} (h : M[k]? = some (.lst l)) : lenD M (.cid k) = some l.length := by
  show M[k]?.bind _ = _; rw [h]; rfl
theorem w_lenC {QA : AI → Stt → Prop} {X : Exn → Stt → Prop} {env : List (Option Ent)} {M : List Cn} {k : Nat} {l : List D} (h : M[k]? = some (.lst l)) (q : QA (.val (.int (l.length : Int))) ⟨env, M⟩) : Wo QA X (fLen ⟨env, M⟩ [.val (.cid k)]) := w_len (d := .cid k) rfl (lenD_cid h) q
theorem w_viewC {env : List (Option Ent)} {M : List Cn} {k : Nat} {l : List D} {P : List D → Prop} (h : M[k]? = some (.lst l)) (q : P l) : ∃ l, viewL ⟨env, M⟩ (.val (.cid k)) = some l ∧ P l := ⟨l, viewL_cid h, q⟩
/-! ## t[lo:hi] of a tuple, not the whole of it -/
section
variable {K : PySem.W.Frag} {ct : Ct} {H0 : Hp} {W : WX}
theorem sl_T {X : Cx} {K : PySem.W.Frag} (hK : X.K = K) : SlR X (rSlT K) := by subst hK; exact sl_tup
def fSlT (s : Stt) (a : AI) (lo hi : Option Int) : Ro AI := match viewT s a with
  | some l => if HT.sIx l.length 0 lo = 0 ∧ HT.sIx l.length l.length hi = l.length then .no else .ok (.val (.tup (cutL l lo hi))) s
  | none => .no
def mSlT (m : Mo AI) (ml mh : Mo (Option Int)) : Mo AI := fun s => (m s).bind fun a s1 => (ml s1).bind fun l s2 => (mh s2).bind fun h s3 => fSlT s3 a l h
theorem ei_slT {te : TE} {tl th : TO} {m : Mo AI} {ml mh : Mo (Option Int)} (h1 : Ei K ct H0 W te m) (h2 : Eo K ct H0 W tl ml) (h3 : Eo K ct H0 W th mh) : Ei K ct H0 W (tSl (rSlT K) te tl th) (mSlT m ml mh) := fun S s σ H Q rel p =>
  h1 S s σ H _ rel (Pst.bind bI p fun S1 s1 H1 x a st1 rel1 i1 p1 => h2 S1 s1 σ H1 _ rel1 (Pst.bind bI p1 fun S2 s2 H2 lo lo' st2 rel2 i2 p2 => h3 S2 s2 σ H2 _ rel2 (Pst.bind bI p2 fun S3 s3 H3 hi hi' st3 rel3 i3 p3 => by
    cases (show lo = lo' from i2); cases (show hi = hi' from i3)
    have i1' := (i1.step st2).step st3
    unfold fSlT at p3
    split at p3
    · rename_i l e
      obtain ⟨q, vs, rfl, k1, k2⟩ := viewT_ok rel3 i1' e
      split at p3
      · exact False.elim p3
      · rename_i hw
        refine ⟨q, vs, rfl, k1, by rw [k2.length]; exact hw, fun r hr => p3.newT rel3 hr ?_⟩
        show RpL _ _ _ _ ((vs.drop (HT.sIx vs.length 0 lo)).take (HT.sIx vs.length vs.length hi - HT.sIx vs.length 0 lo)) _
        rw [k2.length]
        exact (k2.drop _).take _
    · exact False.elim p3)))
variable {s : Stt} {X : Exn → Stt → Prop} {QA : AI → Stt → Prop} {m : Mo AI}
theorem w_slTp {ml mh : Mo (Option Int)} (h : Wo (fun a s1 => Wo (fun l s2 => Wo (fun u s3 => Wo QA X (fSlT s3 a l u)) X (mh s2)) X (ml s1)) X (m s)) : Wo QA X (mSlT m ml mh s) := w_bind (w_mono h fun _ _ h => w_bind (w_mono h fun _ _ h => w_bind h))
theorem w_slTu {a : AI} {l : List D} {lo hi : Option Int} (e : viewT s a = some l) (c : ¬ (HT.sIx l.length 0 lo = 0 ∧ HT.sIx l.length l.length hi = l.length)) (h : QA (.val (.tup (cutL l lo hi))) s) : Wo QA X (fSlT s a lo hi) := by
  unfold fSlT; rw [e]; simp only []; rw [if_neg c]; exact h
end
end Y

/-! # a number in a list of numbers -/
namespace Y
open PySem L2 Z
theorem any_ints (i : Int) : ∀ ns : List Int, ((ns.map PyData.int).any fun z => PyData.eqv z (.int i)) = decide (i ∈ ns)
  | [] => rfl
  | n :: ns => by
    rw [List.map_cons, List.any_cons, any_ints i ns, eqv_int]
    by_cases h : n = i
    · subst h; simp
    · have h2 : ¬ i = n := fun z => h z.symm
      simp [h, h2]
theorem inOf_ints {s : Stt} {b : AI} {d : D} {ns : List Int} {i : Int} (e0 : viewD s b = none) (e : (look s b).bind (deref s.M) = some d) (h : d = .lst (ns.map D.int) ∨ d = .clst (ns.map D.int)) : inOf s (.val (.int i)) b = some (decide (i ∈ ns)) := by
  have hp : pyOf s b = some (.list (ns.map PyData.int)) := by unfold pyOf; rw [e, Option.bind_some]; exact py_ints h
  have ha : pyOf s (.val (.int i)) = some (.int i) := rfl
  unfold inOf
  split
  · rename_i h1; cases h1
  · rw [e0, ha, hp]
    simp only []
    rw [shaped_int, shaped_lints, any_ints]; rfl
section
variable {s : Stt} {X : Exn → Stt → Prop} {QA : AI → Stt → Prop}
theorem w_inI {b : AI} {d : D} {ns : List Int} {i : Int} (e0 : viewD s b = none) (e : (look s b).bind (deref s.M) = some d) (h : d = .lst (ns.map D.int) ∨ d = .clst (ns.map D.int)) (q : QA (.val (.bl (decide (i ∈ ns)))) s) : Wo QA X (fIn s (.val (.int i)) b) := by
  unfold fIn; rw [inOf_ints e0 e h]; exact q
theorem w_ninI {b : AI} {d : D} {ns : List Int} {i : Int} (e0 : viewD s b = none) (e : (look s b).bind (deref s.M) = some d) (h : d = .lst (ns.map D.int) ∨ d = .clst (ns.map D.int)) (q : QA (.val (.bl (!decide (i ∈ ns)))) s) : Wo QA X (fNin s (.val (.int i)) b) := by
  unfold fNin; rw [inOf_ints e0 e h]; exact q
end
/-! ## data that may be compared -/
def Lay (k : Nat) (x : PyData) : Prop := x.canLay0 = true ∧ x.depth ≤ k
theorem lay_int {i : Int} : Lay 1 (.int i) := ⟨rfl, by simp [PyData.depth]⟩
theorem lay_bool {i : Bool} : Lay 1 (.bool i) := ⟨rfl, by simp [PyData.depth]⟩
theorem lay_none : Lay 1 .none := ⟨rfl, by simp [PyData.depth]⟩
theorem lay_str {x : Str} (h : PyData.canLay0 (.str x) = true) : Lay 1 (.str x) := ⟨h, by simp [PyData.depth]⟩
theorem Lay.mono {k m : Nat} {x : PyData} (h : Lay k x) (hk : k ≤ m) : Lay m x := ⟨h.1, Nat.le_trans h.2 hk⟩
theorem lay_all {k : Nat} : ∀ {l : List PyData}, (∀ x ∈ l, Lay k x) → PyData.canLayAll0 l = true ∧ PyData.depthAll l ≤ k
  | [], _ => ⟨rfl, Nat.zero_le _⟩
  | x :: l, h => by
    obtain ⟨h1, h2⟩ := lay_all (l := l) (fun y hy => h y (List.mem_cons_of_mem _ hy))
    obtain ⟨h3, h4⟩ := h x List.mem_cons_self
    refine ⟨?_, ?_⟩
    · show (x.canLay0 && PyData.canLayAll0 l) = true; rw [h3, h1]; rfl
    · show max x.depth (PyData.depthAll l) ≤ k; omega
theorem lay_tup {k : Nat} {l : List PyData} (h : ∀ x ∈ l, Lay k x) : Lay (k + 1) (.tuple l) := by
  obtain ⟨h1, h2⟩ := lay_all h
  exact ⟨h1, by show PyData.depthAll l + 1 ≤ k + 1; omega⟩
theorem lay_lst {k : Nat} {l : List PyData} (h : ∀ x ∈ l, Lay k x) : Lay (k + 1) (.list l) := by
  obtain ⟨h1, h2⟩ := lay_all h
  exact ⟨h1, by show PyData.depthAll l + 1 ≤ k + 1; omega⟩
theorem lay_lints (ns : List Int) : Lay 2 (.list (ns.map PyData.int)) := lay_lst fun x hx => by
  obtain ⟨i, _, rfl⟩ := List.mem_map.mp hx
  exact lay_int
theorem Lay.shaped {k : Nat} {x : PyData} (h : Lay k x) (hk : k ≤ 64) : SeqAt.shaped x = true := by
  unfold SeqAt.shaped
  rw [h.1, decide_eq_true (Nat.le_trans h.2 hk)]; rfl
/-! ## what is told of a list by a row of draws -/
theorem rsv_tints (f : Nat) (M : List Cn) (l : List D) (l' : List D) (h : mapO (rsv f M) l = some l') : rsv (f + 1) M (.tup l) = some (.tup l') := by
  show (mapO (rsv f M) l).map D.tup = _
  rw [h]; rfl
theorem pf_eq {P : AI → Prop} {E : Exn → Prop} {r : Fr} {a : AI} (h : Pf (fun b => b = a) (fun _ => False) r) (k : P a) : Pf P E r := pf_use h (fun b e => by subst e; exact k) (fun _ e => e.elim)
end Y

/-! # ways that meet again -/
namespace Y
open PySem L2 Z
section
variable {N : Stt → Prop} {O : Rs → Prop} {s : Stt} {a b : Ms}
theorem w_chk (h : Ws (fun s1 => s1 = s) O (a s)) (k : Ws N O (b s)) : Ws N O (mSeq a b s) := w_join (fun s1 => s1 = s) h (fun s1 e => by subst e; exact k)
/-- one name may be another value behind -/
theorem w_set1 (i : Nat) (P : D → Prop) (h : Ws (fun s1 => ∃ d, P d ∧ s1 = ⟨s.env.set i (some (.fz d)), s.M⟩) O (a s)) (k : ∀ d, P d → Ws N O (b ⟨s.env.set i (some (.fz d)), s.M⟩)) : Ws N O (mSeq a b s) := w_join (fun s1 => ∃ d, P d ∧ s1 = ⟨s.env.set i (some (.fz d)), s.M⟩) h (fun s1 ⟨d, p, e⟩ => by subst e; exact k d p)
theorem noid_and {ds : List D} {P : Prop} (h : D.noIdL ds = true) (p : P) : D.noIdL ds = true ∧ P := ⟨h, p⟩
end
end Y

/-! # things that are kept: lists in told tuples that may be changed; == that looks through; calls whose cells are taken over -/
namespace Y
open PySem L2 Z
section
variable {K : PySem.W.Frag} {ct : Ct} {H0 : Hp} {W : WX} {S : Sh} {s : Stt} {σ : St} {H : Hp}
/-! ## new lists in a display become cells -/
def vConsK (m : Mo AI) (r : Mo (List D)) : Mo (List D) := fun s => (mK m s).bind fun a s1 => (r s1).bind fun as s2 => .ok (a :: as) s2
theorem ev_consK {ta : TE} {tr : TA} {m : Mo AI} {r : Mo (List D)} (h1 : Ei K ct H0 W ta m) (h2 : EvL K ct H0 W tr r) : EvL K ct H0 W (tCons ta tr) (vConsK m r) := fun S s σ H Q rel p =>
  ek_of h1 S s σ H _ rel (Pst.bind bVL p fun S1 s1 H1 x a st1 rel1 i1 p1 => h2 S1 s1 σ H1 _ rel1 (Pst.bind bVL p1 fun S2 s2 H2 xs as st2 rel2 i2 p2 => p2 S2 _ H2 .refl rel2 (.cons (Rp.step st2 i1) i2)))
/-! ## == by what stands behind cells -/
theorem rsv_live {β : Nat → Addr} (r : Rel K ct H0 S s σ H) : ∀ (f : Nat) {v : V} {d d' : D}, Rp K (U ct.lk H) S.α s.M.length v d → rsv f s.M d = some d' → Rp K (U ct.lk H) β 0 v d'
  | 0, _, _, _, _, e => by cases e
  | f + 1, v, d, d', h, e => by
    have all : ∀ {l l' : List D} {vs : List V}, RpL K (U ct.lk H) S.α s.M.length vs l → mapO (rsv f s.M) l = some l' → RpL K (U ct.lk H) β 0 vs l' := by
      intro l
      induction l with
      | nil => intro l' vs h e; cases e; cases h; exact .nil
      | cons d l ih =>
        intro l' vs h e
        obtain ⟨d', e1, e2⟩ := Option.bind_eq_some_iff.mp (show (rsv f s.M d).bind (fun d' => (mapO (rsv f s.M) l).map (d' :: ·)) = _ from e)
        obtain ⟨r', e3, rfl⟩ := Option.map_eq_some_iff.mp e2
        cases h with
        | cons h hr => exact .cons (rsv_live r f h e1) (ih hr e3)
    cases h with
    | non => cases e; exact .non
    | bl b => cases e; exact .bl b
    | int b => cases e; exact .int b
    | str b => cases e; exact .str b
    | ty b => cases e; exact .ty b
    | tup h1 h2 => obtain ⟨l', e1, rfl⟩ := Option.map_eq_some_iff.mp e; exact .tup h1 (all h2 e1)
    | ctp h1 h2 => obtain ⟨l', e1, rfl⟩ := Option.map_eq_some_iff.mp e; exact .ctp h1 (all h2 e1)
    | lst h1 h2 => obtain ⟨l', e1, rfl⟩ := Option.map_eq_some_iff.mp e; exact .lst h1 (all h2 e1)
    | clst h1 h2 => obtain ⟨l', e1, rfl⟩ := Option.map_eq_some_iff.mp e; exact .clst h1 (all h2 e1)
    | dK h1 h3 h2 =>
      obtain ⟨l', e1, rfl⟩ := Option.map_eq_some_iff.mp e
      have z := zip_fst (ks := _) (vs := l') (show l'.length = (List.map Prod.fst _).length by rw [mapO_len e1, List.length_map, List.length_map])
      exact .dK h1 (by rw [z.1]; exact h3) (by rw [z.2]; exact all h2 e1)
    | dT h1 h3 h2 =>
      obtain ⟨l', e1, rfl⟩ := Option.map_eq_some_iff.mp e
      have z := zip_fst (ks := _) (vs := l') (show l'.length = (List.map Prod.fst _).length by rw [mapO_len e1, List.length_map, List.length_map])
      exact .dT h1 (by rw [z.1]; exact h3) (by rw [z.2]; exact all h2 e1)
    | cid hk =>
      rename_i k
      have up : ∀ {vs : List V} {l : List D}, RpL K S.G S.α s.M.length vs l → RpL K (U ct.lk H) S.α s.M.length vs l := fun h => h.mono r.sub (fun _ _ => rfl) (Nat.le_refl _)
      unfold rsv at e
      split at e
      · rename_i l q
        obtain ⟨l', e1, rfl⟩ := Option.map_eq_some_iff.mp e
        obtain ⟨i1, vs, i2, i3⟩ := r.ids k _ q
        exact .lst (uL i2) (all (up i3) e1)
      · rename_i l q
        obtain ⟨l', e1, rfl⟩ := Option.map_eq_some_iff.mp e
        obtain ⟨i1, vs, i2, i3, i4⟩ := r.ids k _ q
        have z := zip_fst (ks := _) (vs := l') (show l'.length = (List.map Prod.fst _).length by rw [mapO_len e1, List.length_map, List.length_map])
        exact .dK (uK i2) (by rw [z.1]; exact i3) (by rw [z.2]; exact all (up i4) e1)
      · rename_i l q
        obtain ⟨l', e1, rfl⟩ := Option.map_eq_some_iff.mp e
        obtain ⟨i1, vs, i2, i3, i4⟩ := r.ids k _ q
        have z := zip_fst (ks := _) (vs := l') (show l'.length = (List.map Prod.fst _).length by rw [mapO_len e1, List.length_map, List.length_map])
        exact .dT (uT i2) (by rw [z.1]; exact i3) (by rw [z.2]; exact all (up i4) e1)
      · cases e
def pyR (s : Stt) (a : AI) : Option PyData := ((look s a).bind (rsv 9 s.M)).bind D.py
theorem pyR_ok {Hs : Hp} {v : V} {a : AI} {x : PyData} (rel : Rel K ct H0 S s σ H) (i : ItOk K ct Hs S s σ H v a) (e : pyR s a = some x) : Dp K H v x := by
  obtain ⟨d', e1, e2⟩ := Option.bind_eq_some_iff.mp e
  obtain ⟨d, e3, e4⟩ := Option.bind_eq_some_iff.mp e1
  exact uDp (rp_dp (rsv_live (β := S.α) rel 9 (look_ok rel i e3) e4) e2)
def eqR (s : Stt) (a b : AI) : Option Bool := (pyR s a).bind fun x => (pyR s b).bind fun y => if SeqAt.shaped x && SeqAt.shaped y then some (x.eqv y) else none
def fEqR : Stt → AI → AI → Ro AI := fun s a b => match eqR s a b with
  | some k => .ok (.val (.bl k)) s
  | none => .no
def fNeR : Stt → AI → AI → Ro AI := fun s a b => match eqR s a b with
  | some k => .ok (.val (.bl (!k))) s
  | none => .no
theorem eqR_ok {Hs Hs' : Hp} {v w : V} {a b : AI} {k : Bool} (rel : Rel K ct H0 S s σ H) (i : ItOk K ct Hs S s σ H v a) (j : ItOk K ct Hs' S s σ H w b) (e : eqR s a b = some k) :
    ∃ x y, Dp K H v x ∧ Dp K H w y ∧ SeqAt.shaped x = true ∧ SeqAt.shaped y = true ∧ x.eqv y = k := by
  obtain ⟨x, e1, e⟩ := Option.bind_eq_some_iff.mp e
  obtain ⟨y, e2, e⟩ := Option.bind_eq_some_iff.mp e
  split at e
  · rename_i h
    rw [Bool.and_eq_true] at h
    cases e
    exact ⟨x, y, pyR_ok rel i e1, pyR_ok rel j e2, h.1, h.2, rfl⟩
  · cases e
theorem j_eqR : J2 K ct H0 (rEqZ K) fEqR := fun W S s σ H Hs Hs' x y a b Q rel ia ib p => by
  unfold fEqR at p
  split at p
  · rename_i k e
    obtain ⟨d, f, h1, h2, h3, h4, rfl⟩ := eqR_ok rel ia ib e
    exact .inr ⟨d, f, h1, h2, h3, h4, p.val rel (.bl _)⟩
  · exact False.elim p
theorem j_neR : J2 K ct H0 (rNeZ K) fNeR := fun W S s σ H Hs Hs' x y a b Q rel ia ib p => by
  unfold fNeR at p
  split at p
  · rename_i k e
    obtain ⟨d, f, h1, h2, h3, h4, rfl⟩ := eqR_ok rel ia ib e
    exact .inr ⟨d, f, h1, h2, h3, h4, p.val rel (.bl _)⟩
  · exact False.elim p
/-! ## in, likewise -/
def inR (s : Stt) (a b : AI) : Option Bool := (pyR s a).bind fun x => (pyR s b).bind fun y => match y with
  | .list ds => if SeqAt.shaped x && SeqAt.shaped (.list ds) then some (ds.any fun z => PyData.eqv z x) else none
  | _ => none
def fInR (g : Bool → Bool) : Stt → AI → AI → Ro AI := fun s a b => match inR s a b with
  | some k => .ok (.val (.bl (g k))) s
  | none => .no
theorem inR_ok {g : Bool → Bool} : ∀ W S s σ H Hs Hs' x y a b Q, Rel K ct H0 S s σ H → ItOk K ct Hs S s σ H x a → ItOk K ct Hs' S s σ H y b → Pst K ct H0 (RI K ct) W S s σ H Q (fInR g s a b) → ∃ d ds, Dp K H x d ∧ Dp K H y (.list ds) ∧ SeqAt.shaped d = true ∧ SeqAt.shaped (.list ds) = true ∧ Q (.bl (g (ds.any fun z => PyData.eqv z d))) H := fun W S s σ H Hs Hs' x y a b Q rel ia ib p => by
  unfold fInR at p
  split at p
  · rename_i k e
    obtain ⟨d, e1, e⟩ := Option.bind_eq_some_iff.mp e
    obtain ⟨f, e2, e⟩ := Option.bind_eq_some_iff.mp e
    split at e
    · rename_i ds
      split at e
      · rename_i h
        rw [Bool.and_eq_true] at h
        cases e
        exact ⟨d, ds, pyR_ok rel ia e1, pyR_ok rel ib e2, h.1, h.2, p.val rel (.bl _)⟩
      · cases e
    · cases e
  · exact False.elim p
theorem j_inR : J2 K ct H0 (rInY K) (fInR id) := fun W S s σ H Hs Hs' x y a b Q rel ia ib p => .inl (.inl (.inl (inR_ok W S s σ H Hs Hs' x y a b Q rel ia ib p)))
theorem j_ninR : J2 K ct H0 (rNinY K) (fInR not) := fun W S s σ H Hs Hs' x y a b Q rel ia ib p => .inl (.inl (.inl (inR_ok W S s σ H Hs Hs' x y a b Q rel ia ib p)))
/-! ## a number in a tuple of numbers -/
def fInTi (g : Bool → Bool) : Stt → AI → AI → Ro AI := fun s a b => match a, (viewT s b).bind intsD with
  | .val (.int i), some ns => .ok (.val (.bl (g (decide (i ∈ ns))))) s
  | _, _ => .no
theorem inV_ints (i : Int) : ∀ ns : List Int, inV (.int i) (ns.map V.int) = decide (i ∈ ns)
  | [] => rfl
  | n :: ns => by
    show (eqV (.int n) (.int i) || inV (.int i) (ns.map V.int)) = _
    rw [inV_ints i ns]
    show ((n == i) || _) = _
    by_cases h : n = i
    · subst h; simp
    · have h2 : ¬ i = n := fun z => h z.symm
      simp [h, h2]
theorem inTi_ok {W : WX} {Hs Hs' : Hp} {x y : V} {a b : AI} {Q : VK} {g : Bool → Bool} (rel : Rel K ct H0 S s σ H) (ia : ItOk K ct Hs S s σ H x a) (ib : ItOk K ct Hs' S s σ H y b) (p : Pst K ct H0 (RI K ct) W S s σ H Q (fInTi g s a b)) : ∃ q xs, y = .ref q ∧ (SqL K H q xs ∨ SqT K H q xs) ∧ flatV x = true ∧ xs.all flatV = true ∧ Q (.bl (g (inV x xs))) H := by
  unfold fInTi at p
  split at p
  · rename_i i ns e
    cases rp_int ia
    obtain ⟨l, e1, e2⟩ := Option.bind_eq_some_iff.mp e
    obtain ⟨q, vs, rfl, k1, k2⟩ := viewT_ok rel ib e1
    have hv := ints_rp k2 e2
    subst hv
    refine ⟨q, _, rfl, .inr k1, rfl, ?_, ?_⟩
    · rw [List.all_map, List.all_eq_true]; intro _ _; rfl
    · rw [inV_ints]; exact p.val rel (.bl _)
  · exact False.elim p
theorem j_inTi : J2 K ct H0 (rInY K) (fInTi id) := fun W S s σ H Hs Hs' x y a b Q rel ia ib p => .inl (.inl (.inr (inTi_ok (g := id) rel ia ib p)))
theorem j_ninTi : J2 K ct H0 (rNinY K) (fInTi not) := fun W S s σ H Hs Hs' x y a b Q rel ia ib p => .inl (.inl (.inr (inTi_ok (g := not) rel ia ib p)))
/-! ## t + u of tuples -/
theorem op_catTZ {X : Cx} {K : PySem.W.Frag} (hK : X.K = K) : OpR X (binaryOp .Add) (rCatT K) := by subst hK; exact op_catT
def fCatT : Stt → AI → AI → Ro AI := fun s a b => match a, b with
  | .val d, .val e => match tupOf d, tupOf e with
    | some (x :: l), some (y :: l') => if (x :: l).length + (y :: l').length ≤ sizeLine then .ok (.val (.tup ((x :: l) ++ (y :: l')))) s else .no
    | some (x :: l), some [] => if (x :: l).length ≤ sizeLine then .ok (.val d) s else .no
    | _, _ => .no
  | _, _ => .no
theorem tup_rp {v : V} {d : D} {l : List D} (rel : Rel K ct H0 S s σ H) (h : Rp K S.G S.α s.M.length v d) (e : tupOf d = some l) : ∃ a vs, v = .ref a ∧ SqT K H a vs ∧ RpL K S.G S.α s.M.length vs l := viewT_ok (a := .val d) (Hs := H) rel h (show viewT s (.val d) = some l from by show (some d).bind tupOf = _; exact e)
theorem j_catT : J2 K ct H0 (rCatT K) fCatT := fun W S s σ H Hs Hs' x y a b Q rel ia ib p => by
  unfold fCatT at p
  split at p
  · rename_i d e
    split at p
    · rename_i x l y l' e1 e2
      obtain ⟨p1, vs, rfl, h1, h2⟩ := tup_rp rel ia e1
      obtain ⟨p2, us, rfl, h3, h4⟩ := tup_rp rel ib e2
      split at p
      · rename_i hz
        refine ⟨p1, p2, vs, us, rfl, rfl, h1, h3, (fun z => by subst z; cases h2), by rw [h2.length, h4.length]; exact hz, (fun z => by subst z; cases h4), fun _ q hq => p.newT rel hq (h2.append h4)⟩
      · exact False.elim p
    · rename_i x l e1 e2
      obtain ⟨p1, vs, rfl, h1, h2⟩ := tup_rp rel ia e1
      obtain ⟨p2, us, rfl, h3, h4⟩ := tup_rp rel ib e2
      split at p
      · rename_i hz
        cases h4
        refine ⟨p1, p2, vs, [], rfl, rfl, h1, h3, (fun z => by subst z; cases h2), by rw [h2.length]; exact hz, fun _ => p.val rel ia, fun z => absurd rfl z⟩
      · exact False.elim p
    · exact False.elim p
  · exact False.elim p
end
/-! ## the cells of a call are taken over -/
mutual
def shD (n : Nat) : D → D
  | .tup l => .tup (shL n l)
  | .ctp l => .ctp (shL n l)
  | .lst l => .lst (shL n l)
  | .clst l => .clst (shL n l)
  | .dK l => .dK (shK n l)
  | .dT l => .dT (shT n l)
  | .cid k => .cid (n + k)
  | d => d
def shL (n : Nat) : List D → List D
  | [] => []
  | d :: l => shD n d :: shL n l
def shK (n : Nat) : List (Key × D) → List (Key × D)
  | [] => []
  | (k, d) :: l => (k, shD n d) :: shK n l
def shT (n : Nat) : List (List Key × D) → List (List Key × D)
  | [] => []
  | (k, d) :: l => (k, shD n d) :: shT n l
end
def shF (n : Nat) : List (Str × D) → List (Str × D)
  | [] => []
  | (k, d) :: l => (k, shD n d) :: shF n l
def shC (n : Nat) : Cn → Cn
  | .lst l => .lst (shL n l)
  | .dK l => .dK (shK n l)
  | .dT l => .dT (shT n l)
  | .obj c fs => .obj c (shF n fs)
theorem shK_k (n : Nat) : ∀ l : List (Key × D), (shK n l).map Prod.fst = l.map Prod.fst ∧ (shK n l).map Prod.snd = shL n (l.map Prod.snd)
  | [] => ⟨rfl, rfl⟩
  | (k, d) :: l => by obtain ⟨h1, h2⟩ := shK_k n l; exact ⟨by show k :: (shK n l).map Prod.fst = _; rw [h1]; rfl, by show shD n d :: (shK n l).map Prod.snd = _; rw [h2]; rfl⟩
theorem shT_k (n : Nat) : ∀ l : List (List Key × D), (shT n l).map Prod.fst = l.map Prod.fst ∧ (shT n l).map Prod.snd = shL n (l.map Prod.snd)
  | [] => ⟨rfl, rfl⟩
  | (k, d) :: l => by obtain ⟨h1, h2⟩ := shT_k n l; exact ⟨by show k :: (shT n l).map Prod.fst = _; rw [h1]; rfl, by show shD n d :: (shT n l).map Prod.snd = _; rw [h2]; rfl⟩
theorem shF_k (n : Nat) : ∀ l : List (Str × D), (shF n l).map Prod.fst = l.map Prod.fst ∧ (shF n l).map Prod.snd = shL n (l.map Prod.snd)
  | [] => ⟨rfl, rfl⟩
  | (k, d) :: l => by obtain ⟨h1, h2⟩ := shF_k n l; exact ⟨by show k :: (shF n l).map Prod.fst = _; rw [h1]; rfl, by show shD n d :: (shF n l).map Prod.snd = _; rw [h2]; rfl⟩
section
variable {K : PySem.W.Frag} {ct : Ct} {H0 : Hp} {W : WX} {S : Sh} {s : Stt} {σ : St} {H : Hp} {G : Hp} {α β : Nat → Addr} {n n' : Nat}
mutual
theorem Rp.shift (hb : ∀ k, k < n' → β (n + k) = α k) : ∀ {v : V} {d : D}, Rp K G α n' v d → Rp K G β (n + n') v (shD n d)
  | _, _, .non => .non
  | _, _, .bl b => .bl b
  | _, _, .int i => .int i
  | _, _, .str x => .str x
  | _, _, .ty x => .ty x
  | _, _, .tup h r => .tup h (RpL.shift hb r)
  | _, _, .ctp h r => .ctp h (RpL.shift hb r)
  | _, _, .lst h r => .lst h (RpL.shift hb r)
  | _, _, .clst h r => .clst h (RpL.shift hb r)
  | _, _, .dK (l := l) h e r => .dK h (by rw [(shK_k n l).1]; exact e) (by rw [(shK_k n l).2]; exact RpL.shift hb r)
  | _, _, .dT (l := l) h e r => .dT h (by rw [(shT_k n l).1]; exact e) (by rw [(shT_k n l).2]; exact RpL.shift hb r)
  | _, _, .cid (k := k) h => by
    have e := hb k h
    rw [← e]
    exact .cid (by omega)
theorem RpL.shift (hb : ∀ k, k < n' → β (n + k) = α k) : ∀ {vs : List V} {l : List D}, RpL K G α n' vs l → RpL K G β (n + n') vs (shL n l)
  | _, _, .nil => .nil
  | _, _, .cons h r => .cons (Rp.shift hb h) (RpL.shift hb r)
end
def Sh.join (S S' : Sh) (n : Nat) : Sh := ⟨S'.G, fun k => if k < n then S.α k else S'.α (k - n), fun a => match S.lab a with
  | some l => some l
  | none => match S'.lab a with
    | some (.id k) => some (.id (n + k))
    | _ => none⟩
theorem join_back {S' : Sh} {M' : List Cn} {H' : Hp} (r : Rel K ct H0 S s σ H) (st : Stp ⟨S.G, S.α, fun _ => none⟩ 0 H S' M'.length H') (r' : Rel K ct H S' ⟨[], M'⟩ [] H') :
    Rel K ct H0 (S.join S' s.M.length) ⟨s.env, s.M ++ M'.map (shC s.M.length)⟩ σ H' ∧ Stp S s.M.length H (S.join S' s.M.length) (s.M ++ M'.map (shC s.M.length)).length H' := by
  have k : ∀ a o, H a = some o → H' a = some o ∧ S'.lab a = none := fun a o e => st.fr a o e rfl
  have hlen : (s.M ++ M'.map (shC s.M.length)).length = s.M.length + M'.length := by rw [List.length_append, List.length_map]
  have al : ∀ i, i < s.M.length → (S.join S' s.M.length).α i = S.α i := fun i hi => if_pos hi
  have al2 : ∀ i, i < M'.length → (S.join S' s.M.length).α (s.M.length + i) = S'.α i := fun i _ => by
    show (if s.M.length + i < s.M.length then _ else _) = _
    rw [if_neg (by omega), show s.M.length + i - s.M.length = i by omega]
  have gno : ∀ a o, H a = some o → S.G a = none → S'.G a = none := fun a o e e2 => by
    cases q : S'.G a with
    | none => rfl
    | some u =>
      rcases st.gn a u q with z | z | ⟨l, z⟩
      · have z : S.G a = some u := z; rw [e2] at z; cases z
      · rw [e] at z; cases z
      · cases z
  have cnOld : ∀ {p : Addr} {c : Cn}, CnOk K ct S s.M.length H p c → CnOk K ct (S.join S' s.M.length) (s.M ++ M'.map (shC s.M.length)).length H' p c := fun {p c} h => h.mono st.g al (by omega) (fun o e => (k p o e).1)
  refine ⟨⟨r'.sub, fun a l q => ?_, fun a e => r.dom a (st.dom a e), r.len, fun i e q => ?_, fun i c q => ?_⟩, ⟨st.g, by omega, al, fun a o e l => ?_, fun a o e => ?_, st.dom⟩⟩
  · have q : (match S.lab a with | some l => some l | none => match S'.lab a with | some (.id k) => some (.id (s.M.length + k)) | _ => none) = some l := q
    split at q
    · rename_i l' ql
      obtain ⟨h1, o, h2⟩ := r.lg a _ ql
      exact ⟨gno a o h2 h1, o, (k a o h2).1⟩
    · split at q
      · rename_i j ql
        exact r'.lg a _ ql
      · cases q
  · have hh := r.slot i e q
    cases e with
    | fz d => obtain ⟨v, h1, h2⟩ := hh; exact ⟨v, h1, h2.mono st.g al (by show s.M.length ≤ (s.M ++ M'.map (shC s.M.length)).length; omega)⟩
    | xn x => exact xn_mono (S := S) (n := s.M.length) (H := H) st.g al (by show s.M.length ≤ (s.M ++ M'.map (shC s.M.length)).length; omega) rfl hh
    | ow c =>
      obtain ⟨p, h1, h2, h3, h4, h5⟩ := hh
      refine ⟨p, h1, h2, ?_, h4, cnOld h5⟩
      show (match S.lab p with | some l => some l | none => _) = _
      rw [h3]
  · by_cases hi : i < s.M.length
    · have q : (s.M ++ M'.map (shC s.M.length))[i]? = some c := q
      rw [List.getElem?_append_left hi] at q
      obtain ⟨h1, h2⟩ := r.ids i c q
      have ha := al i hi
      refine ⟨?_, by rw [ha]; exact cnOld h2⟩
      rw [ha]
      show (match S.lab (S.α i) with | some l => some l | none => _) = _
      rw [h1]
    · have q : (s.M ++ M'.map (shC s.M.length))[i]? = some c := q
      rw [List.getElem?_append_right (by omega), List.getElem?_map] at q
      obtain ⟨c', q', rfl⟩ := Option.map_eq_some_iff.mp q
      have q := q'
      have hj : i - s.M.length < M'.length := (List.getElem?_eq_some_iff.mp q).1
      obtain ⟨h1, h2⟩ := r'.ids _ _ q
      have ha : (S.join S' s.M.length).α i = S'.α (i - s.M.length) := if_neg hi
      have hn : S.lab (S'.α (i - s.M.length)) = none := by
        refine r.labN ?_
        cases q2 : H (S'.α (i - s.M.length)) with
        | none => rfl
        | some u => have := (k _ u q2).2; rw [h1] at this; cases this
      rw [ha]
      refine ⟨?_, ?_⟩
      · show (match S.lab (S'.α (i - s.M.length)) with | some l => some l | none => match S'.lab (S'.α (i - s.M.length)) with | some (.id k) => some (.id (s.M.length + k)) | _ => none) = _
        rw [hn, h1]
        simp only []
        congr 2
        omega
      · rw [hlen]
        cases c' with
        | lst l => obtain ⟨vs, g1, g2⟩ := h2; exact ⟨vs, g1, RpL.shift al2 g2⟩
        | dK l => obtain ⟨vs, g1, g3, g2⟩ := h2; exact ⟨vs, g1, by rw [(shK_k _ l).1]; exact g3, by rw [(shK_k _ l).2]; exact RpL.shift al2 g2⟩
        | dT l => obtain ⟨vs, g1, g3, g2⟩ := h2; exact ⟨vs, g1, by rw [(shT_k _ l).1]; exact g3, by rw [(shT_k _ l).2]; exact RpL.shift al2 g2⟩
        | obj c fs => obtain ⟨dx, vs, g1, g3, g2⟩ := h2; exact ⟨dx, vs, g1, by rw [(shF_k _ fs).1]; exact g3, by rw [(shF_k _ fs).2]; exact RpL.shift al2 g2⟩
  · refine ⟨(k a o e).1, ?_⟩
    show (match S.lab a with | some l => some l | none => match S'.lab a with | some (.id k) => some (.id (s.M.length + k)) | _ => none) = none
    rw [l, (k a o e).2]
  · rcases st.gn a o e with z | z | ⟨l, z⟩
    · exact .inl z
    · exact .inr (.inl z)
    · cases z
def shA (n : Nat) : AI → AI
  | .val d => .val (shD n d)
  | .new c => .new (shC n c)
  | .slot i => .slot i
def takeR (r : Fr) (s : Stt) : Ro AI := match r with
  | .ok (.val d) M' => .ok (.val (shD s.M.length d)) ⟨s.env, s.M ++ M'.map (shC s.M.length)⟩
  | .ok (.new c) M' => .ok (.new (shC s.M.length c)) ⟨s.env, s.M ++ M'.map (shC s.M.length)⟩
  | .er x M' => .er ⟨x.cls, shF s.M.length x.fs⟩ ⟨s.env, s.M ++ M'.map (shC s.M.length)⟩
  | _ => .no
def mCallT (f : Mf) (m : Mo (List D)) : Mo AI := fun s => (m s).bind fun ds s1 => if D.noIdL ds = true then (match f ds [] with
  | .er _ _ => .no
  | r => takeR r s1) else .no
def mCallTS (f : Mf) (m : Mo (List D)) : Mo AI := fun s => (m s).bind fun ds s1 => if D.noIdL ds = true then takeR (f ds []) s1 else .no
theorem shC_isC (n : Nat) (c : Cn) : (shC n c).isC = c.isC := by cases c <;> rfl
theorem take_ok' {Q : VK} {r : Fr} {a : AI} {M' : List Cn} (er : r = .ok a M') (rel : Rel K ct H0 S s σ H) (p : Pst K ct H0 (RI K ct) W S s σ H Q (takeR r s)) {S' : Sh} {v : V} {H' : Hp} (st : Stp ⟨S.G, S.α, fun _ => none⟩ 0 H S' M'.length H') (r' : Rel K ct H S' ⟨[], M'⟩ [] H') (it : ItOk K ct H S' ⟨[], M'⟩ [] H' v a) : Q v H' := by
  obtain ⟨b1, b2⟩ := join_back rel st r'
  have hlen : (s.M ++ M'.map (shC s.M.length)).length = s.M.length + M'.length := by rw [List.length_append, List.length_map]
  have al2 : ∀ i, i < M'.length → (S.join S' s.M.length).α (s.M.length + i) = S'.α i := fun i _ => by
    show (if s.M.length + i < s.M.length then _ else _) = _
    rw [if_neg (by omega), show s.M.length + i - s.M.length = i by omega]
  subst er
  cases a with
  | slot j => simp [ItOk] at it
  | val d =>
    refine p _ v H' b2 b1 ?_
    show Rp K _ _ (s.M ++ M'.map (shC s.M.length)).length v _
    rw [hlen]
    exact Rp.shift al2 it
  | new c =>
    obtain ⟨q, rfl, h1, h2, h3, h4, h5⟩ := it
    refine p _ _ H' b2 b1 ⟨q, rfl, h1, ?_, h3, by rw [shC_isC]; exact h4, ?_⟩
    · show (match S.lab q with | some l => some l | none => match S'.lab q with | some (.id k) => some (.id (s.M.length + k)) | _ => none) = none
      rw [rel.labN h1, h2]
    · show CnOk K ct _ (s.M ++ M'.map (shC s.M.length)).length H' q _
      rw [hlen]
      cases c with
      | lst l => obtain ⟨vs, g1, g2⟩ := h5; exact ⟨vs, g1, RpL.shift al2 g2⟩
      | dK l => obtain ⟨vs, g1, g3, g2⟩ := h5; exact ⟨vs, g1, by rw [(shK_k _ l).1]; exact g3, by rw [(shK_k _ l).2]; exact RpL.shift al2 g2⟩
      | dT l => obtain ⟨vs, g1, g3, g2⟩ := h5; exact ⟨vs, g1, by rw [(shT_k _ l).1]; exact g3, by rw [(shT_k _ l).2]; exact RpL.shift al2 g2⟩
      | obj c fs => obtain ⟨dx, vs, g1, g3, g2⟩ := h5; exact ⟨dx, vs, g1, by rw [(shF_k _ fs).1]; exact g3, by rw [(shF_k _ fs).2]; exact RpL.shift al2 g2⟩
theorem take_er {x : Exn} {M' : List Cn} {Q : VK} (rel : Rel K ct H0 S s σ H) (p : Pst K ct H0 (RI K ct) W S s σ H Q (takeR (.er x M') s)) {S' : Sh} {H' : Hp} {dd : Option Addr} (st : Stp ⟨S.G, S.α, fun _ => none⟩ 0 H S' M'.length H') (r' : Rel K ct H S' ⟨[], M'⟩ [] H') (xo : XOk K S' M'.length H' x dd) : W (.ref (ct x.cls)) dd σ H' := by
  obtain ⟨b1, b2⟩ := join_back rel st r'
  have hlen : (s.M ++ M'.map (shC s.M.length)).length = s.M.length + M'.length := by rw [List.length_append, List.length_map]
  have al2 : ∀ i, i < M'.length → (S.join S' s.M.length).α (s.M.length + i) = S'.α i := fun i _ => by
    show (if s.M.length + i < s.M.length then _ else _) = _
    rw [if_neg (by omega), show s.M.length + i - s.M.length = i by omega]
  refine p _ H' dd b2 b1 ?_
  rcases xo with ⟨h1, h2⟩ | ⟨d, fvs, h1, h2, h3, h4⟩
  · refine .inl ⟨?_, h2⟩
    rw [h1]; rfl
  · refine .inr ⟨d, fvs, h1, h2, by rw [(shF_k _ _).1]; exact h3, ?_⟩
    show RpL K _ _ (s.M ++ M'.map (shC s.M.length)).length _ _
    rw [(shF_k _ _).2, hlen]
    exact RpL.shift al2 h4
theorem ei_callT {f : Mf} {E : XK} {t : TA} {m : Mo (List D)} (h : EvL K ct H0 W t m) : Ei K ct H0 W (tCallZ (spM K ct f) E t) (mCallT f m) := fun S s σ H Q rel p =>
  h S s σ H _ rel (Pst.bind bI p fun S1 s1 H1 vs ds st1 rel1 i1 p1 => by
    split at p1
    · rename_i hn
      refine ⟨_, [], ds, pure_in rel1, RpL.noId i1 hn, ?_⟩
      generalize hf : f ds [] = r at p1
      cases r with
      | no => exact False.elim p1
      | er x M' => exact False.elim p1
      | ok a M' => intro S' v H' st r' it; exact take_ok' (r := .ok a M') rfl rel1 p1 st r' it
    · exact False.elim p1)
theorem ei_callTS {f : Mf} {t : TA} {m : Mo (List D)} (h : EvL K ct H0 W t m) : Ei K ct H0 W (tCallS (spM K ct f) (WE W) t) (mCallTS f m) := fun S s σ H Q rel p =>
  h S s σ H _ rel (Pst.bind bI p fun S1 s1 H1 vs ds st1 rel1 i1 p1 => by
    split at p1
    · rename_i hn
      refine ⟨_, [], ds, pure_in rel1, RpL.noId i1 hn, ?_⟩
      generalize hf : f ds [] = r at p1
      cases r with
      | no => exact False.elim p1
      | er x M' => intro S' H' dd st r' xo; exact take_er rel1 p1 st r' xo
      | ok a M' => intro S' v H' st r' it; exact take_ok' (r := .ok a M') rfl rel1 p1 st r' it
    · exact False.elim p1)
end
/-! ## steps -/
/-- what a call tells whose cells are taken over -/
def Tf (n : Nat) (P : AI → List Cn → Prop) (E : Exn → List Cn → Prop) : Fr → Prop
  | .ok (.val d) M' => P (.val (shD n d)) (M'.map (shC n))
  | .ok (.new c) M' => P (.new (shC n c)) (M'.map (shC n))
  | .er x M' => E ⟨x.cls, shF n x.fs⟩ (M'.map (shC n))
  | _ => False
section
variable {s : Stt} {X : Exn → Stt → Prop} {QA : AI → Stt → Prop} {QV : List D → Stt → Prop} {f : Mf} {ma : Mo (List D)} {m : Mo AI} {r : Mo (List D)}
theorem w_vConsK (h : Wo (fun a s1 => Wo (fun as s2 => QV (a :: as) s2) X (r s1)) X (mK m s)) : Wo QV X (vConsK m r s) := w_bind (w_mono h fun _ _ h => w_bind (w_mono h fun _ _ h => h))
theorem w_takeR {r : Fr} (h : Tf s.M.length (fun a M' => QA a ⟨s.env, s.M ++ M'⟩) (fun x M' => X x ⟨s.env, s.M ++ M'⟩) r) : Wo QA X (takeR r s) := by
  unfold takeR
  cases r with
  | no => exact h.elim
  | er x M' => exact h
  | ok a M' =>
    cases a with
    | val d => exact h
    | slot j => exact h.elim
    | new c => exact h
theorem w_callT (h : Wo (fun ds s1 => D.noIdL ds = true ∧ Tf s1.M.length (fun a M' => QA a ⟨s1.env, s1.M ++ M'⟩) (fun _ _ => False) (f ds [])) X (ma s)) : Wo QA X (mCallT f ma s) := w_bind (w_mono h fun ds s1 ⟨e, h⟩ => by
  show Wo QA X (if D.noIdL ds = true then _ else _)
  rw [if_pos e]
  generalize f ds [] = r at h ⊢
  cases r with
  | no => exact h.elim
  | er x M' => exact h.elim
  | ok a M' => exact w_takeR (show Tf s1.M.length (fun a M' => QA a ⟨s1.env, s1.M ++ M'⟩) (fun x M' => X x ⟨s1.env, s1.M ++ M'⟩) (.ok a M') from by
      cases a with
      | val d => exact h
      | slot j => exact h.elim
      | new c => exact h))
theorem w_callTS (h : Wo (fun ds s1 => D.noIdL ds = true ∧ Tf s1.M.length (fun a M' => QA a ⟨s1.env, s1.M ++ M'⟩) (fun x M' => X x ⟨s1.env, s1.M ++ M'⟩) (f ds [])) X (ma s)) : Wo QA X (mCallTS f ma s) := w_bind (w_mono h fun ds s1 ⟨e, h⟩ => by
  show Wo QA X (if D.noIdL ds = true then _ else _)
  rw [if_pos e]
  exact w_takeR h)
theorem tf_fo {n : Nat} {P : AI → List Cn → Prop} {E : Exn → List Cn → Prop} {r : Fr} (h : Fo (fun a M' => Tf n P E (.ok a M')) r) : Tf n P E r := by
  cases r with
  | no => exact h.elim
  | er x M' => exact h.elim
  | ok a M' => exact h
theorem tf_fx {n : Nat} {P : AI → List Cn → Prop} {E : Exn → List Cn → Prop} {r : Fr} (h : Fx (fun a M' => Tf n P E (.ok a M')) (fun x M' => Tf n P E (.er x M')) r) : Tf n P E r := by
  cases r with
  | no => exact h.elim
  | er x M' => exact h
  | ok a M' => exact h
theorem w_eqR {a b : AI} {k : Bool} (e : eqR s a b = some k) (h : QA (.val (.bl k)) s) : Wo QA X (fEqR s a b) := by unfold fEqR; rw [e]; exact h
theorem w_neR {a b : AI} {k : Bool} (e : eqR s a b = some k) (h : QA (.val (.bl (!k))) s) : Wo QA X (fNeR s a b) := by unfold fNeR; rw [e]; exact h
theorem eqR_of {a b : AI} {x y : PyData} {k : Bool} (e1 : pyR s a = some x) (e2 : pyR s b = some y) (h1 : SeqAt.shaped x = true) (h2 : SeqAt.shaped y = true) (e : x.eqv y = k) : eqR s a b = some k := by
  unfold eqR
  rw [e1, Option.bind_some, e2, Option.bind_some, h1, h2, ← e]; rfl
theorem eqR_same {a b : AI} {x : PyData} {k : Nat} (e1 : pyR s a = some x) (e2 : pyR s b = some x) (h : Lay k x) (hk : k ≤ 64) : eqR s a b = some true := eqR_of e1 e2 (h.shaped hk) (h.shaped hk) (eqv_self x h.1)
theorem inR_of {a b : AI} {x : PyData} {ds : List PyData} {k : Bool} (e1 : pyR s a = some x) (e2 : pyR s b = some (.list ds)) (h1 : SeqAt.shaped x = true) (h2 : SeqAt.shaped (.list ds) = true) (e : (ds.any fun z => PyData.eqv z x) = k) : inR s a b = some k := by
  unfold inR
  rw [e1, Option.bind_some, e2, Option.bind_some]
  simp only []
  rw [h1, h2, ← e]; rfl
theorem w_inR {g : Bool → Bool} {a b : AI} {k : Bool} (e : inR s a b = some k) (h : QA (.val (.bl (g k))) s) : Wo QA X (fInR g s a b) := by unfold fInR; rw [e]; exact h
theorem w_inTi {g : Bool → Bool} {b : AI} {i : Int} {l : List D} {ns : List Int} (e : viewT s b = some l) (e2 : intsD l = some ns) (h : QA (.val (.bl (g (decide (i ∈ ns))))) s) : Wo QA X (fInTi g s (.val (.int i)) b) := by
  unfold fInTi; rw [e, Option.bind_some, e2]; exact h
theorem w_catT {d e x y : D} {l l' : List D} (e1 : tupOf d = some (x :: l)) (e2 : tupOf e = some (y :: l')) (hz : (x :: l).length + (y :: l').length ≤ sizeLine) (h : QA (.val (.tup ((x :: l) ++ (y :: l')))) s) : Wo QA X (fCatT s (.val d) (.val e)) := by
  unfold fCatT; simp only []; rw [e1, e2]; simp only []; rw [if_pos hz]; exact h
end
theorem shL_map {β : Type} {n : Nat} {f : β → D} {g : β → D} (h : ∀ b, shD n (f b) = g b) : ∀ l : List β, shL n (l.map f) = l.map g
  | [] => rfl
  | b :: l => by show shD n (f b) :: shL n (l.map f) = _; rw [h b, shL_map h l]; rfl
theorem shL_ints (n : Nat) (ns : List Int) : shL n (ns.map D.int) = ns.map D.int := shL_map (fun _ => rfl) ns
end Y

/-! # walks over a list that lies in a cell -/
namespace Y
open PySem L2 Z
section
variable {N : Stt → Prop} {O : Rs → Prop} {s : Stt}
theorem w_forK {g : Tg} {b : Ms} {ck : Option (Nat × Cn)} {xs : List D} (P : Nat → Stt → Prop) (h0 : P 0 s) (hc : ∀ i s, P i s → chk ck s) (hs : ∀ i x s, xs[i]? = some x → P i s → So (fun s1 => Ws (P (i + 1)) (Lo (P (i + 1)) N O) (b s1)) (g x s)) (hd : ∀ s, P xs.length s → N s) : Ws N O (forN g b ck xs s) := by
  induction xs generalizing P s with
  | nil => unfold forN; rw [if_pos (hc 0 s h0)]; exact hd s h0
  | cons x xs ih =>
    have h1 := hs 0 x s rfl h0
    unfold forN
    rw [if_pos (hc 0 s h0)]
    cases hg : g x s with
    | none => rw [hg] at h1; exact False.elim h1
    | some s1 =>
      rw [hg] at h1
      have h1 : Ws (P 1) (Lo (P 1) N O) (b s1) := h1
      simp only []
      cases hb : b s1 with
      | nx s2 => rw [hb] at h1; exact ih (fun i => P (i + 1)) h1 (fun i => hc (i + 1)) (fun i y s e => hs (i + 1) y s e) hd
      | ct s2 => rw [hb] at h1; exact ih (fun i => P (i + 1)) h1 (fun i => hc (i + 1)) (fun i y s e => hs (i + 1) y s e) hd
      | bk s2 => rw [hb] at h1; exact h1
      | rt a s2 => rw [hb] at h1; exact h1
      | er x s2 => rw [hb] at h1; exact h1
      | no => rw [hb] at h1; exact h1
theorem lc_invK {ws : List Nat} {g : Tg} {e : Mo D} {ck : Option (Nat × Cn)} {xs : List D} : ∀ (I : Nat → List D → Stt → Prop) (acc : List D) (s : Stt), I 0 acc s → (∀ i acc s, I i acc s → chk ck s) → acc.length + xs.length ≤ sizeLine → (∀ i x acc s, xs[i]? = some x → I i acc s → So (fun s1 => Wo (fun d s2 => I (i + 1) (acc ++ [d]) (wipeS ws s2)) Xf (e s1)) (g x s)) → ∃ l s', lcN ws g mYes e ck xs acc s = .ok l s' ∧ I xs.length l s' := by
  induction xs with
  | nil => intro I acc s h0 hc hz h; exact ⟨acc, s, by unfold lcN; rw [if_pos (hc 0 acc s h0)], h0⟩
  | cons x xs ih =>
    intro I acc s h0 hc hz h
    have h1 := h 0 x acc s rfl h0
    unfold lcN
    rw [if_pos (hc 0 acc s h0)]
    cases hg : g x s with
    | none => rw [hg] at h1; exact False.elim h1
    | some s1 =>
      rw [hg] at h1
      have h1 : Wo (fun d s2 => I 1 (acc ++ [d]) (wipeS ws s2)) Xf (e s1) := h1
      show ∃ l s', (if true = true then (match e s1 with | .ok d s3 => if acc.length < sizeLine then lcN ws g mYes e ck xs (acc ++ [d]) (wipeS ws s3) else .no | _ => .no) else _) = _ ∧ _
      rw [if_pos rfl]
      cases he : e s1 with
      | no => rw [he] at h1; exact False.elim h1
      | er x s2 => rw [he] at h1; exact False.elim h1
      | ok d s3 =>
        rw [he] at h1
        have hz' : acc.length < sizeLine := by rw [List.length_cons] at hz; omega
        simp only []
        rw [if_pos hz']
        obtain ⟨l, s', e1, e2⟩ := ih (fun i => I (i + 1)) (acc ++ [d]) (wipeS ws s3) h1 (fun i => hc (i + 1)) (by rw [List.length_append]; rw [List.length_cons] at hz; show acc.length + 1 + _ ≤ _; omega) (fun i y acc s e => h (i + 1) y acc s e)
        exact ⟨l, s', e1, e2⟩
theorem w_lcInvK {ws : List Nat} {g : Tg} {e : Mo D} {ck : Option (Nat × Cn)} {xs : List D} {P : List D → Stt → Prop} (I : Nat → List D → Stt → Prop) (h0 : I 0 [] s) (hc : ∀ i acc s, I i acc s → chk ck s) (hz : xs.length ≤ sizeLine) (h : ∀ i x acc s, xs[i]? = some x → I i acc s → So (fun s1 => Wo (fun d s2 => I (i + 1) (acc ++ [d]) (wipeS ws s2)) Xf (e s1)) (g x s)) (k : ∀ l s', I xs.length l s' → P l s') : ∃ l s2, lcN ws g mYes e ck xs [] s = .ok l s2 ∧ P l s2 := by
  obtain ⟨l, s', e1, h1⟩ := lc_invK I [] s h0 hc (by simpa using hz) h
  exact ⟨l, s', e1, k l s' h1⟩
end
end Y
namespace Y
open PySem L2 Z
theorem tf_use {n : Nat} {P P' : AI → List Cn → Prop} {E E' : Exn → List Cn → Prop} {r : Fr} (h : Tf n P E r) (k : ∀ a M, P a M → P' a M) (k2 : ∀ x M, E x M → E' x M) : Tf n P' E' r := by
  cases r with
  | no => exact h.elim
  | er x M' => exact k2 _ _ h
  | ok a M' =>
    cases a with
    | val d => exact k _ _ h
    | slot j => exact h.elim
    | new c => exact k _ _ h
end Y

/-! # frozen at once -/
namespace Y
open PySem L2 Z
theorem w_mI {s : Stt} {X : Exn → Stt → Prop} {QA : AI → Stt → Prop} {m : Mo D} (h : Wo (fun d s1 => QA (.val d) s1) X (m s)) : Wo QA X (mI m s) := w_bind (w_mono h fun _ _ h => h)
end Y

/-! # for over a dict in a name -/
namespace Y
open PySem L2 Z
section
variable {K : PySem.W.Frag} {ct : Ct} {H0 : Hp} {W : WX}
theorem sv_forAt {js : List Nat} {wi : TI} {g : TG} {tb : TS} {mi : Mo Im} {f : Tg} {b : Ms} {S : Sh} {s : Stt} {σ : St} {H : Hp} {Dn : Ends} (hi : ∀ R, Pst K ct H0 (RW K ct H0) W S s σ H R (mi s) → wi σ H R) (hg : Sg K ct H0 js g f) (hb : Sv K ct H0 W tb b) (rel : Rel K ct H0 S s σ H) (p : PstS K ct H0 W S s H Dn (mFor mi f b s)) : tFor wi g tb Dn σ H :=
  hi _ (PstS.bind p fun S1 s1 H1 J im st1 rel1 wk p1 => by
    have p1 := PstS.from p1 st1
    generalize hR : forN f b im.ck im.xs s1 = R at p1
    refine ⟨fun i m σ' H' => m = im.xs.length - i ∧ ∃ S' s', Stp S1 s1.M.length H1 S' s'.M.length H' ∧ Rel K ct H0 S' s' σ' H' ∧ i ≤ im.xs.length ∧ forN f b im.ck (im.xs.drop i) s' = R, ⟨im.xs.length, rfl, S1, s1, .refl, rel1, Nat.zero_le _, hR⟩, ?_⟩
    rintro i m σ' H' ⟨rfl, S', s', st', rel', hi', hr⟩
    have nno : R ≠ .no := fun z => by rw [z] at p1; exact p1
    by_cases hlt : i < im.xs.length
    · have e := List.drop_eq_getElem_cons hlt
      rw [e] at hr
      have hx : im.xs[i]? = some im.xs[i] := List.getElem?_eq_getElem hlt
      generalize im.xs[i] = d at e hr hx
      unfold forN at hr
      have hc : chk im.ck s' := Classical.byContradiction fun z => by rw [if_neg z] at hr; exact nno hr.symm
      rw [if_pos hc] at hr
      obtain ⟨go, yl⟩ := (wk S' s' σ' H' st' rel' hc).1 i d hx
      refine .inr ⟨go, fun σ2 H2 => ∃ S2 s2, Stp S1 s1.M.length H1 S2 s2.M.length H2 ∧ Rel K ct H0 S2 s2 σ2 H2 ∧ forN f b im.ck (im.xs.drop (i + 1)) s2 = R, ?_, ?_⟩
      · rintro σ2 H2 ⟨S2, s2, k1, k2, k3⟩
        exact ⟨im.xs.length - (i + 1), by omega, rfl, S2, s2, k1, k2, hlt, k3⟩
      · intro x H2 hy
        obtain ⟨S2, st2, rel2, rp2⟩ := yl x H2 hy
        cases hs : f d s' with
        | none => rw [hs] at hr; exact absurd hr.symm nno
        | some s2 =>
          rw [hs] at hr
          refine hg S2 s' σ' H2 x d s2 _ rel2 rp2 hs fun S3 σ3 st3 rel3 _ _ _ => ?_
          have stt := (st'.trans st2).trans st3
          refine hb S3 s2 σ3 H2 _ rel3 ?_
          have hr : (match b s2 with | .nx s2 => forN f b im.ck (im.xs.drop (i + 1)) s2 | .ct s2 => forN f b im.ck (im.xs.drop (i + 1)) s2 | .bk s2 => .nx s2 | .rt a s2 => .rt a s2 | .er x s2 => .er x s2 | .no => .no) = R := hr
          cases hbs : b s2 with
          | nx s4 => rw [hbs] at hr; exact fun S4 σ4 H4 st4 rel4 => ⟨S4, s4, stt.trans st4, rel4, hr⟩
          | ct s4 => rw [hbs] at hr; exact fun S4 σ4 H4 st4 rel4 => ⟨S4, s4, stt.trans st4, rel4, hr⟩
          | bk s4 => rw [hbs] at hr; subst hr; exact fun S4 σ4 H4 st4 rel4 => p1 S4 σ4 H4 (stt.trans st4) rel4
          | rt a s4 => rw [hbs] at hr; subst hr; exact fun S4 σ4 v H4 st4 rel4 q => p1 S4 σ4 v H4 (stt.trans st4) rel4 q
          | er x s4 => rw [hbs] at hr; subst hr; exact fun S4 σ4 H4 dd st4 rel4 q => p1 S4 σ4 H4 dd (stt.trans st4) rel4 q
          | no => rw [hbs] at hr; exact absurd hr.symm nno
    · have e : im.xs.drop i = [] := List.drop_eq_nil_of_le (by omega)
      rw [e] at hr
      unfold forN at hr
      have hc : chk im.ck s' := Classical.byContradiction fun z => by rw [if_neg z] at hr; exact nno hr.symm
      rw [if_pos hc] at hr
      have ei : i = im.xs.length := by omega
      subst hr
      refine .inl ⟨?_, p1 S' σ' H' st' rel'⟩
      rw [ei]
      exact (wk S' s' σ' H' st' rel' hc).2)

noncomputable def mForD (kd : KD) (i : Nat) (g : Tg) (b : Ms) : Ms := fun s => match entAt s i with
  | some (.fz (.dK l)) => (match forN g b none (dIt kd l) s with
    | .er _ _ => .no
    | r => r)
  | _ => .no
theorem sv_forD {kd : KD} {i : Nat} {js : List Nat} {g : TG} {tb : TS} {f : Tg} {b : Ms} (hlk : ct.lk = none) (hg : ∀ b, Sg K (ct.lkd b) H0 js g f) (hb : ∀ z, Sv K (ct.lkd z) H0 W0 tb b) : Sv K ct H0 W (tLock (tFor (dI kd i) g tb)) (mForD kd i f b) := fun S s σ H Dn rel p => by
  unfold mForD at p
  split at p
  · rename_i l en
    obtain ⟨v, h1, h2⟩ := rel.slot i _ (entAt_eq en)
    cases h2 with
    | @dK d kvs _ k1 k2 k3 =>
      have rk := RpK.of k2 k3
      obtain ⟨hd, _⟩ := rel.lock (od := default) hlk k1
      have hlab : S.lab d = none := by
        cases q : S.lab d with
        | none => rfl
        | some z => rw [(rel.lg d z q).1] at k1; cases k1
      refine ⟨d, _, hd, trivial, fun od => ?_⟩
      have rl := (rel.lock (od := od) hlk k1).2
      refine sv_forAt (K := K) (ct := ct.lkd (some d)) (H0 := H0) (W := W0) (S := S) (s := s) (mi := fun s => .ok ⟨dIt kd l, none⟩ s) (f := f) (b := b) (fun R q => dI_go h1 upd_same (q S _ _ .refl rl (wk_d upd_same hlab rk))) (hg _) (hb _) rl ?_
      show PstS K (ct.lkd (some d)) H0 W0 S s _ _ (forN f b none (dIt kd l) s)
      generalize forN f b none (dIt kd l) s = R at p
      cases R with
      | no => exact p
      | er x s' => exact False.elim p
      | nx s' =>
        intro S' σ' H' st rel'
        exact ⟨(st.fr d _ upd_same hlab).1, p S' σ' _ (st.lockd hd) (rel'.unlock hlk (st.g _ _ k1))⟩
      | bk s' =>
        intro S' σ' H' st rel'
        exact ⟨(st.fr d _ upd_same hlab).1, p S' σ' _ (st.lockd hd) (rel'.unlock hlk (st.g _ _ k1))⟩
      | ct s' =>
        intro S' σ' H' st rel'
        exact ⟨(st.fr d _ upd_same hlab).1, p S' σ' _ (st.lockd hd) (rel'.unlock hlk (st.g _ _ k1))⟩
      | rt a s' =>
        intro S' σ' v H' st rel' it
        have g' : S'.G d = some (.dK kvs) := st.g _ _ k1
        refine ⟨(st.fr d _ upd_same hlab).1, p S' σ' v _ (st.lockd hd) (rel'.unlock hlk g') ?_⟩
        cases a with
        | val x => exact it
        | slot j => exact it
        | new c' =>
          obtain ⟨pp, rfl, i1, i2, i3, i4, i5⟩ := it
          have ne : pp ≠ d := fun z => by subst z; rw [i3] at g'; cases g'
          exact ⟨pp, rfl, i1, i2, i3, i4, (i5.mono (H' := upd H' d (.dK kvs)) (fun _ _ e => e) (fun _ _ => rfl) (Nat.le_refl _) (fun o e => by rw [upd_ne ne]; exact e)).unlkd⟩
  · exact False.elim p
theorem w_forD {N : Stt → Prop} {O : Rs → Prop} {kd : KD} {i : Nat} {g : Tg} {b : Ms} {l : List (Key × D)} {s : Stt} (e : entAt s i = some (.fz (.dK l))) (h : Ws N (fun r => match r with | .er _ _ => False | r => O r) (forN g b none (dIt kd l) s)) : Ws N O (mForD kd i g b s) := by
  unfold mForD
  rw [e]
  simp only []
  generalize forN g b none (dIt kd l) s = R at h ⊢
  cases R with
  | er x s' => exact h.elim
  | _ => exact h
end
end Y

/-! # t.index(i): the program's own tuples of numbers -/
namespace Y
open PySem L2 Z
section
variable {X : Cx}
def rTIdx (K : PySem.W.Frag) : V → List V → Hp → VK → Prop := fun x xs H Q => ∃ (p : Addr) (ns : List Int) (i : Int), x = .ref p ∧ xs = [.int i] ∧ SqT K H p (ns.map V.int) ∧ i ∈ ns ∧ Q (.int ((ns.idxOf i : Nat) : Int)) H
theorem mt_tidx' : MtR X "tuple.index" (rTIdx X.K) := by
  intro pins s σ H x xs v us Q I rx rxs h
  obtain ⟨p, ns, i, rfl, rfl, ht, hi, q⟩ := h
  cases rx
  cases rxs with
  | cons ry rt =>
    cases rt
    obtain ⟨tk, rfl⟩ := ry
    obtain ⟨its, r1, p1, _⟩ := I.tuple ht
    have i1 := intsAre_of r1
    refine PySem.SeqAt.tuple_index_ints (l := p) (vs := its) p1 i1 hi ?_
    exact ⟨V.int _, H, I.tok _, ⟨_, rfl⟩, q⟩
theorem mt_tidx {K : PySem.W.Frag} (hK : X.K = K) : MtR X "tuple.index" (rTIdx K) := by subst hK; exact mt_tidx'
end
section
variable {K : PySem.W.Frag} {ct : Ct} {H0 : Hp} {W : WX}
def mTIdx (ns : List Int) (ma : Mo (List D)) : Mo AI := fun s => (ma s).bind fun ds s1 => match ds with
  | [.int i] => if i ∈ ns then .ok (.val (.int ((ns.idxOf i : Nat) : Int))) s1 else .no
  | _ => .no
theorem ei_tidx {u : Addr} {ns : List Int} {t : TA} {ma : Mo (List D)} (hT : KT K u (ns.map V.int)) (hd : ∃ o, K.lookup u = some o ∧ o.cls = .type "tuple" ∧ o.dict = none) (ha : EvL K ct H0 W t ma) : Ei K ct H0 W (tBM K "tuple" (rTIdx K) (tC (.ref u)) t) (mTIdx ns ma) := fun S s σ H Q rel p =>
  ⟨.inr (.inl ⟨rfl, hd⟩), ha S s σ H _ rel (Pst.bind bI p fun S1 s1 H1 vs ds st1 rel1 i1 p1 => by
    split at p1
    · rename_i i
      split at p1
      · rename_i hi
        cases i1 with
        | cons h hr =>
          cases hr
          cases rp_int h
          exact ⟨u, ns, i, rfl, rfl, .inr hT, hi, p1.val rel1 (.int _)⟩
      · exact False.elim p1
    · exact False.elim p1)⟩
theorem w_tidx {s : Stt} {X : Exn → Stt → Prop} {QA : AI → Stt → Prop} {ns : List Int} {ma : Mo (List D)} (h : Wo (fun ds s1 => ∃ i, ds = [.int i] ∧ i ∈ ns ∧ QA (.val (.int ((ns.idxOf i : Nat) : Int))) s1) X (ma s)) : Wo QA X (mTIdx ns ma s) := w_bind (w_mono h fun ds s1 ⟨i, e, hi, h⟩ => by
  subst e
  show Wo QA X (if i ∈ ns then _ else _)
  rw [if_pos hi]; exact h)
end
end Y

/-! # a comprehension over a list in a name, which stays the name's own -/
namespace Y
open PySem L2 Z
section
variable {K : PySem.W.Frag} {ct : Ct} {H0 : Hp} {W : WX}
noncomputable def mLcO (i : Nat) (ws : List Nat) (g : Tg) (c : Mo Bool) (e : Mo AI) : Mo AI := fun s => match entAt s i with
  | some (.ow (.lst l)) => (mLc ws (fun s => .ok ⟨l, none⟩ s) g c e ⟨s.env.set i none, s.M⟩).bind fun a s1 => .ok a ⟨s1.env.set i (some (.ow (.lst l))), s1.M⟩
  | _ => mLc ws (mWL (mName i)) g c e s
theorem ei_lcO {i : Nat} {js ws : List Nat} {g : TG} {tt : TT} {te : TE} {f : Tg} {c : Mo Bool} {e : Mo AI} (hg : Sg K ct H0 js g f) (hjs : ∀ j ∈ js, j ∈ ws) (hc : Et K ct H0 W0 tt c) (he : Ei K ct H0 W0 te e) :
    Ei K ct H0 W (tLc (iList K (tVar i)) g tt te ws) (mLcO i ws f c e) := fun S s σ H Q rel p => by
  unfold mLcO at p
  split at p
  · rename_i l en
    obtain ⟨d, h1, h2, h3, h4, h5⟩ := rel.slot i _ (entAt_eq en)
    obtain ⟨vs, hd, k3⟩ := h5
    have hgd := (rel.lg d _ h3).1
    have hlab : (S.un i).lab d = none := by show (if S.lab d = some (.slot i) then none else S.lab d) = none; rw [if_pos h3]
    have rl : Rel K ct H0 (S.un i) ⟨s.env.set i none, s.M⟩ σ H := rel.setN
    have k3 : RpL K (S.un i).G (S.un i).α s.M.length vs l := k3
    have wk : Wk K ct H0 (S.un i) s.M.length H (Itl K d) ⟨l, none⟩ := fun S1 s1 σ1 H1 st rel1 _ => by
      have hd1 : SqL K H1 d vs := .inl (.inl (st.fr d _ hd hlab).1)
      have kk := k3.mono st.g st.al st.le
      refine ⟨fun j x ex => ?_, ⟨vs, hd1, by rw [kk.length]; exact Nat.le_refl _⟩⟩
      obtain ⟨v, e1, e2⟩ := kk.get ex
      refine ⟨⟨vs, v, hd1, e1⟩, fun y H2 hy => ?_⟩
      obtain ⟨rfl, hy⟩ := hy
      have := hy vs hd1
      rw [e1] at this
      cases this
      exact ⟨S1, .refl, rel1, e2⟩
    refine ei_lcAt (K := K) (ct := ct) (H0 := H0) (W := W) (S := S.un i) (s := ⟨s.env.set i none, s.M⟩) (mi := fun s => .ok ⟨l, none⟩ s) (fun R q => ⟨.ref d, h1, d, rfl, ⟨vs, .inl (.inl hd)⟩, q (S.un i) _ _ .refl rl wk⟩) hg hjs hc he ?_
    have hne : ∀ x s', mLc ws (fun s => .ok ⟨l, none⟩ s) f c e ⟨s.env.set i none, s.M⟩ ≠ .er x s' := fun _ _ => mLc_er
    generalize mLc ws (fun s => .ok ⟨l, none⟩ s) f c e ⟨s.env.set i none, s.M⟩ = R at p hne
    cases R with
    | no => exact p
    | er x s' => exact absurd rfl (hne _ _)
    | ok a s' =>
      intro S' b H' st rel' it
      obtain ⟨hd', hl'⟩ := st.fr d _ hd hlab
      have hg' : S'.G d = none := by
        cases q : S'.G d with
        | none => rfl
        | some o =>
          rcases st.gn d o q with z | z | ⟨z, z'⟩
          · have z : S.G d = some o := z; rw [hgd] at z; cases z
          · rw [hd] at z; cases z
          · rw [hlab] at z'; cases z'
      have kk := k3.mono st.g st.al st.le
      have r2 := rel'.setOw (i := i) (c := .lst l) h2 hl' hg' rfl ⟨vs, hd', kk⟩
      rw [set_self h1] at r2
      have hneq : ∀ {a : Addr}, S.lab a = none → a ≠ d := fun {a} ha z => by subst z; rw [h3] at ha; cases ha
      refine p (S'.cl i d) b _ ⟨st.g, st.le, st.al, fun a o ha la => ?_, fun a o ga => ?_, st.dom⟩ r2 ?_
      · have lu : (S.un i).lab a = none := by show (if S.lab a = some (.slot i) then none else S.lab a) = none; rw [la]; rfl
        obtain ⟨z1, z2⟩ := st.fr a o ha lu
        refine ⟨z1, ?_⟩
        show (if a = d then some (Lab.slot i) else if S'.lab a = some (.slot i) then none else S'.lab a) = none
        rw [if_neg (hneq la), z2]; rfl
      · rcases st.gn a o ga with z | z | ⟨z, z'⟩
        · exact .inl z
        · exact .inr (.inl z)
        · exact .inr (.inr ⟨z, un_of z'⟩)
      · cases a with
        | val x => exact it
        | slot j => exact it
        | new c' =>
          obtain ⟨pp, rfl, i1, i2, i3, i4, i5⟩ := it
          have ne : pp ≠ d := fun z => by subst z; rw [hd] at i1; cases i1
          refine ⟨pp, rfl, i1, ?_, i3, i4, i5.mono (fun _ _ e => e) (fun _ _ => rfl) (Nat.le_refl _) (fun o e => e)⟩
          show (if pp = d then some (Lab.slot i) else if S'.lab pp = some (.slot i) then none else S'.lab pp) = none
          rw [if_neg ne, i2]; rfl
  · exact ei_lc (jw_list ei_var) hg hjs hc he S s σ H Q rel p
theorem w_lcO {QA : AI → Stt → Prop} {X : Exn → Stt → Prop} {s : Stt} {i : Nat} {ws : List Nat} {g : Tg} {c : Mo Bool} {e : Mo AI} {l : List D} (en : entAt s i = some (.ow (.lst l))) (h : ∃ l2 s2, lcN ws g c (mV e) none l [] (wipeS ws ⟨s.env.set i none, s.M⟩) = .ok l2 s2 ∧ QA (.new (.lst l2)) ⟨(Y.rest (s.env.set i none) s2.env ws).set i (some (.ow (.lst l))), s2.M⟩) : Wo QA X (mLcO i ws g c e s) := by
  unfold mLcO; rw [en]
  refine w_bind (w_lc (QA := fun a s1 => Wo QA X (.ok a ⟨s1.env.set i (some (.ow (.lst l))), s1.M⟩)) (show Wo _ X (Ro.ok (⟨l, none⟩ : Im) _) from h))
end
end Y

/-! # list.insert, list.pop(i), comprehensions whose new lists are kept, displays of dicts, setdefault, list(range(i, j)) -/
namespace Y
open PySem L2 Z
section
variable {K : PySem.W.Frag} {ct : Ct} {H0 : Hp} {W : WX} {S : Sh} {s : Stt} {σ : St} {H : Hp}
/-! ## list.insert, list.pop(i) -/
def rIns : V → List V → Hp → VK → Prop := fun x vs H Q => ∃ (l : Addr) (xs : List V) (i : Int) (y : V), x = .ref l ∧ vs = [.int i, y] ∧ H l = some (.lst xs) ∧ xs.length < sizeLine ∧ 0 ≤ i ∧ i < 2 ^ 63 ∧ Q .non (upd H l (.lst (xs.take i.toNat ++ [y] ++ xs.drop i.toNat)))
theorem mt_ins {X : Cx} : MtR X "list.insert" rIns := mt_insert
def fIns (s : Stt) (a : AI) (ds : List D) : Ro AI := match ds, getC s a with
  | [.int i, d], some (.lst l) => if l.length < sizeLine ∧ 0 ≤ i ∧ i < 2 ^ 63 then .ok (.val .non) (setC s a (.lst (l.take i.toNat ++ [d] ++ l.drop i.toNat))) else .no
  | _, _ => .no
theorem jm_ins : JM K ct H0 rIns fIns := fun W S s σ H Hs x a vs ds Q rel i r p => by
  unfold fIns at p
  split at p
  · rename_i j d l e
    split at p
    · rename_i hz
      obtain ⟨q, rfl, ⟨us, h1, h2⟩, h3⟩ := mut_ok rel i e
      cases r with
      | cons r1 r2 =>
        cases r2 with
        | cons r3 r4 =>
          cases r4
          cases r1
          exact ⟨q, us, j, _, rfl, rfl, h1, by rw [h2.length]; exact hz.1, hz.2.1, hz.2.2, p.mut (h3 _ (.lst (l.take j.toNat ++ [d] ++ l.drop j.toNat)) (fun _ => rfl) ⟨_, upd_same, ((h2.take _).append (.cons r3 .nil)).append (h2.drop _)⟩)⟩
    · exact False.elim p
  · exact False.elim p
theorem mt_popA {X : Cx} : MtR X "list.pop" rPopAt := mt_popAt
def fPopA (s : Stt) (a : AI) (ds : List D) : Ro AI := match ds, getC s a with
  | [.int i], some (.lst l) => if 0 ≤ i ∧ i < l.length ∧ i < 2 ^ 63 then (match l[i.toNat]? with
    | some d => .ok (.val d) (setC s a (.lst (l.eraseIdx i.toNat)))
    | none => .no) else .no
  | _, _ => .no
theorem rpl_erase {G : Hp} {α : Nat → Addr} {n : Nat} : ∀ {vs : List V} {l : List D} (i : Nat), RpL K G α n vs l → RpL K G α n (vs.eraseIdx i) (l.eraseIdx i)
  | _, _, _, .nil => .nil
  | _, _, 0, .cons h r => r
  | _, _, i + 1, .cons h r => .cons h (rpl_erase i r)
theorem jm_popA : JM K ct H0 rPopAt fPopA := fun W S s σ H Hs x a vs ds Q rel i r p => by
  unfold fPopA at p
  split at p
  · rename_i j l e
    split at p
    · rename_i hz
      split at p
      · rename_i d ed
        obtain ⟨q, rfl, ⟨us, h1, h2⟩, h3⟩ := mut_ok rel i e
        cases r with
        | cons r1 r2 =>
          cases r2
          cases r1
          obtain ⟨v, ev, rv⟩ := rpl_at' h2 ed
          obtain ⟨r1, r2⟩ := h3 (.lst (us.eraseIdx j.toNat)) (.lst (l.eraseIdx j.toNat)) (fun _ => rfl) ⟨_, upd_same, rpl_erase _ h2⟩
          refine ⟨q, us, j, j.toNat, v, rfl, rfl, h1, by omega, by omega, ?_, ev, p S v _ r2 r1 ?_⟩
          · have hl := h2.length
            have z1 := hz.1
            have z2 := hz.2.1
            unfold seqIndex?
            simp [show ¬ j < 0 by omega, z1, hl, z2]
          · show Rp K S.G S.α (setC s a (.lst (l.eraseIdx j.toNat))).M.length v d
            rw [setC_len]; exact rv
      · exact False.elim p
    · exact False.elim p
  · exact False.elim p
/-! ## a comprehension whose elements are as told -/
noncomputable def mLcG (ws : List Nat) (mi : Mo Im) (g : Tg) (c : Mo Bool) (e : Mo D) : Mo AI := fun s => (mi s).bind fun im s1 => match lcN ws g c e im.ck im.xs [] (wipeS ws s1) with
  | .ok l s2 => .ok (.new (.lst l)) ⟨rest s1.env s2.env ws, s2.M⟩
  | _ => .no
theorem ei_lcGAt {js ws : List Nat} {wi : TI} {g : TG} {tt : TT} {te : TE} {mi : Mo Im} {f : Tg} {c : Mo Bool} {e : Mo D} {S : Sh} {s : Stt} {σ : St} {H : Hp} {Q : VK} (hi : ∀ R, Pst K ct H0 (RW K ct H0) W S s σ H R (mi s) → wi σ H R) (hg : Sg K ct H0 js g f) (hjs : ∀ j ∈ js, j ∈ ws) (hc : Et K ct H0 W0 tt c) (he : Ev K ct H0 W0 te e)
    (p : Pst K ct H0 (RI K ct) W S s σ H Q (mLcG ws mi f c e s)) : tLc wi g tt te ws σ H Q :=
  hi _ (Pst.bind bI p fun S1 s1 H1 J im st1 rel1 wk p1 => by
    intro D hD
    generalize hR : lcN ws f c e im.ck im.xs [] (wipeS ws s1) = R at p1
    cases R with
    | no => exact False.elim p1
    | er x s2 => exact False.elim p1
    | ok l s2 =>
      have p1 : Pst K ct H0 (RI K ct) W S1 s1 σ H1 Q (.ok (.new (.lst l)) ⟨rest s1.env s2.env ws, s2.M⟩) := p1
      obtain ⟨S1', rel1', st1', hg1, ha1, hl1⟩ := rel1.wipe ws
      refine ⟨fun i m H' => m = im.xs.length - i ∧ i ≤ im.xs.length ∧ ∃ S' s' acc accV, Stp S1 s1.M.length H1 S' s'.M.length H' ∧ Rel K ct H0 S' s' (wipe σ ws) H' ∧ H' D = some (.lst accV) ∧ S'.lab D = none ∧ S'.G D = none ∧ RpL K S'.G S'.α s'.M.length accV acc ∧ lcN ws f c e im.ck (im.xs.drop i) acc s' = .ok l s2, ⟨im.xs.length, rfl, Nat.zero_le _, S1', wipeS ws s1, [], [], st1'.updNew hD, rel1'.new hD, upd_same, rel1'.labN hD, rel1'.gN hD, .nil, hR⟩, ?_⟩
      rintro i m H' ⟨rfl, hi', S', s', acc, accV, st', rel', hDl, hDlab, hDg, rl, hr⟩
      by_cases hlt : i < im.xs.length
      · have ex := List.drop_eq_getElem_cons hlt
        rw [ex] at hr
        have hx : im.xs[i]? = some im.xs[i] := List.getElem?_eq_getElem hlt
        generalize im.xs[i] = d at ex hr hx
        unfold lcN at hr
        have hck : chk im.ck s' := Classical.byContradiction fun z => by rw [if_neg z] at hr; cases hr
        rw [if_pos hck] at hr
        obtain ⟨go, yl⟩ := (wk S' s' _ H' st' rel' hck).1 i d hx
        refine .inr ⟨go, fun H2 => ∃ S2 s3 acc accV, Stp S1 s1.M.length H1 S2 s3.M.length H2 ∧ Rel K ct H0 S2 s3 (wipe σ ws) H2 ∧ H2 D = some (.lst accV) ∧ S2.lab D = none ∧ S2.G D = none ∧ RpL K S2.G S2.α s3.M.length accV acc ∧ lcN ws f c e im.ck (im.xs.drop (i + 1)) acc s3 = .ok l s2, ?_, ?_⟩
        · rintro H2 ⟨S2, s3, acc', accV', k⟩
          exact ⟨im.xs.length - (i + 1), by omega, rfl, hlt, S2, s3, acc', accV', k⟩
        · intro x H2 hy
          obtain ⟨S2, st2, rel2, rp2⟩ := yl x H2 hy
          cases hs : f d s' with
          | none => rw [hs] at hr; cases hr
          | some s3 =>
            rw [hs] at hr
            refine hg S2 s' _ H2 x d s3 _ rel2 rp2 hs fun S3 σ3 st3 rel3 kk _ _ => ?_
            have hw : wipe σ3 ws = wipe σ ws := by
              rw [kk ws hjs]
              refine List.ext_getElem? fun k => ?_
              by_cases hk : k ∈ ws
              · by_cases hl : k < σ.length
                · rw [wipe_in hk (by rw [wipe_length]; exact hl), wipe_in hk hl]
                · rw [List.getElem?_eq_none_iff.mpr (by rw [wipe_length, wipe_length]; omega), List.getElem?_eq_none_iff.mpr (by rw [wipe_length]; omega)]
              · rw [wipe_out hk]
            refine ⟨hw, ?_⟩
            have stt := (st'.trans st2).trans st3
            have str := (st2.trans st3)
            obtain ⟨d3, l3⟩ := str.fr D _ hDl hDlab
            refine hc S3 s3 σ3 H2 _ rel3 ?_
            have hr : (match c s3 with | .ok b s2 => if b = true then (match e s2 with | .ok d s3 => if acc.length < sizeLine then lcN ws f c e im.ck (im.xs.drop (i + 1)) (acc ++ [d]) (wipeS ws s3) else .no | _ => .no) else lcN ws f c e im.ck (im.xs.drop (i + 1)) acc (wipeS ws s2) | _ => .no) = Ro.ok l s2 := hr
            have gD : ∀ {Sx : Sh} {nx : Nat} {Hx : Hp}, Stp S' s'.M.length H' Sx nx Hx → Sx.G D = none := fun {Sx nx Hx} t => by
              cases q : Sx.G D with
              | none => rfl
              | some u =>
                rcases t.gn D u q with z | z | ⟨lb, z⟩
                · rw [hDg] at z; cases z
                · rw [hDl] at z; cases z
                · rw [hDlab] at z; cases z
            cases hcs : c s3 with
            | no => rw [hcs] at hr; cases hr
            | er x s4 => rw [hcs] at hr; cases hr
            | ok b s4 =>
              rw [hcs] at hr
              intro S4 b' H4 st4 rel4 eb
              have eb : b' = b := eb
              rw [eb]
              have str4 := str.trans st4
              obtain ⟨d4, l4⟩ := str4.fr D _ hDl hDlab
              cases b with
              | false =>
                rw [if_neg Bool.false_ne_true]
                have hr : lcN ws f c e im.ck (im.xs.drop (i + 1)) acc (wipeS ws s4) = .ok l s2 := hr
                obtain ⟨S5, rel5, st5, hg5, ha5, hl5⟩ := rel4.wipe ws
                rw [hw] at rel5
                exact ⟨S5, wipeS ws s4, acc, accV, (stt.trans st4).trans st5, rel5, d4, hl5 _ l4, gD (str4.trans st5), rl.step (str4.trans st5), hr⟩
              | true =>
                rw [if_pos rfl]
                have hr : (match e s4 with | .ok d s3 => if acc.length < sizeLine then lcN ws f c e im.ck (im.xs.drop (i + 1)) (acc ++ [d]) (wipeS ws s3) else .no | _ => .no) = Ro.ok l s2 := hr
                refine he S4 s4 σ3 H4 _ rel4 ?_
                cases hes : e s4 with
                | no => rw [hes] at hr; cases hr
                | er x s5 => rw [hes] at hr; cases hr
                | ok d' s5 =>
                  rw [hes] at hr
                  have hr : (if acc.length < sizeLine then lcN ws f c e im.ck (im.xs.drop (i + 1)) (acc ++ [d']) (wipeS ws s5) else .no) = Ro.ok l s2 := hr
                  intro S5 y H5 st5 rel5 rp5
                  have str5 := str4.trans st5
                  obtain ⟨d5, l5⟩ := str5.fr D _ hDl hDlab
                  split at hr
                  · rename_i hz
                    refine ⟨accV, d5, by rw [rl.length]; exact hz, ?_⟩
                    have rel6 := rel5.updU (o := .lst (accV ++ [y])) l5 (gD str5)
                    obtain ⟨S7, rel7, st7, hg7, ha7, hl7⟩ := rel6.wipe ws
                    rw [hw] at rel7
                    have rl7 : RpL K S7.G S7.α (wipeS ws s5).M.length (accV ++ [y]) (acc ++ [d']) := by
                      rw [hg7, ha7]
                      exact (rl.step str5).append (.cons rp5 .nil)
                    exact ⟨S7, wipeS ws s5, acc ++ [d'], accV ++ [y], (((stt.trans st4).trans st5).updNew hD).trans st7, rel7, upd_same, hl7 _ l5, by rw [hg7]; exact gD str5, rl7, hr⟩
                  · cases hr
      · have ex : im.xs.drop i = [] := List.drop_eq_nil_of_le (by omega)
        rw [ex] at hr
        unfold lcN at hr
        have hck : chk im.ck s' := Classical.byContradiction fun z => by rw [if_neg z] at hr; cases hr
        rw [if_pos hck] at hr
        cases hr
        have ei : i = im.xs.length := by omega
        refine .inl ⟨by rw [ei]; exact (wk S' _ _ H' st' rel' hck).2, ?_⟩
        exact p1 S' _ H' st' (rel1.rest st' rel') ⟨D, rfl, hD, hDlab, hDg, rfl, accV, hDl, rl⟩)
/-- the elements, where new lists, become cells -/
theorem ei_lcK {js ws : List Nat} {wi : TI} {g : TG} {tt : TT} {te : TE} {mi : Mo Im} {f : Tg} {c : Mo Bool} {e : Mo AI} (hi : Jw K ct H0 W wi mi) (hg : Sg K ct H0 js g f) (hjs : ∀ j ∈ js, j ∈ ws) (hc : Et K ct H0 W0 tt c) (he : Ei K ct H0 W0 te e) :
    Ei K ct H0 W (tLc wi g tt te ws) (mLcG ws mi f c (mK e)) := fun S s σ H Q rel p => ei_lcGAt (fun R q => hi S s σ H R rel q) hg hjs hc (ek_of he) p
/-! ## list(range(i, j)) -/
def mLR2 (m1 m2 : Mo AI) : Mo AI := fun s => (m1 s).bind fun a s1 => (m2 s1).bind fun b s2 => match a, b with
  | .val (.int i), .val (.int j) => if -(2 ^ 62) ≤ i ∧ i < 2 ^ 62 ∧ -(2 ^ 62) ≤ j ∧ j < 2 ^ 62 ∧ (j - i).toNat ≤ sizeLine then .ok (.new (.lst (rng i (j - i).toNat))) s2 else .no
  | _, _ => .no
theorem ei_lr2 {t1 t2 : TE} {m1 m2 : Mo AI} (h1 : Ei K ct H0 W t1 m1) (h2 : Ei K ct H0 W t2 m2) : Ei K ct H0 W (tLstRg (tRg2 t1 t2)) (mLR2 m1 m2) := fun S s σ H Q rel p =>
  h1 S s σ H _ rel (Pst.bind bI p fun S1 s1 H1 x a st1 rel1 i1 p1 => h2 S1 s1 σ H1 _ rel1 (Pst.bind bI p1 fun S2 s2 H2 y b st2 rel2 i2 p2 => by
    split at p2
    · rename_i i j
      cases rp_int i1
      cases rp_int i2
      split at p2
      · rename_i hz
        have := sizeLine_eq
        exact ⟨i, j, rfl, rfl, ⟨hz.1, hz.2.1, hz.2.2.1, hz.2.2.2.1, by have := hz.2.2.2.2; omega⟩, fun q hq => p2.newL rel2 hq (rpl_rng i (j - i).toNat)⟩
      · exact False.elim p2
    · exact False.elim p2))
/-! ## displays of dicts: keys numbers and texts -/
def RKV (K : PySem.W.Frag) : RR (List (V × V)) (List (D × D)) := fun _ S s _ _ b a => RpL K S.G S.α s.M.length (b.map Prod.fst) (a.map Prod.fst) ∧ RpL K S.G S.α s.M.length (b.map Prod.snd) (a.map Prod.snd)
theorem bKV : Bck (RKV K) := fun _ _ _ _ _ _ _ _ _ h => h
abbrev Ekv (K : PySem.W.Frag) (ct : Ct) (H0 : Hp) (W : WX) (t : List (TE × TE)) (m : Mo (List (D × D))) : Prop := Jd K ct H0 (RKV K) W (tPairs t) m
def kvNil : Mo (List (D × D)) := fun s => .ok [] s
def kvCons (mk mv : Mo AI) (r : Mo (List (D × D))) : Mo (List (D × D)) := fun s => (mV mk s).bind fun a s1 => (mV mv s1).bind fun b s2 => (r s2).bind fun l s3 => .ok ((a, b) :: l) s3
theorem ekv_nil : Ekv K ct H0 W [] kvNil := fun S s σ H Q rel p => p S [] H .refl rel ⟨.nil, .nil⟩
theorem ekv_cons {tk tv : TE} {tr : List (TE × TE)} {mk mv : Mo AI} {r : Mo (List (D × D))} (h1 : Ei K ct H0 W tk mk) (h2 : Ei K ct H0 W tv mv) (h3 : Ekv K ct H0 W tr r) : Ekv K ct H0 W ((tk, tv) :: tr) (kvCons mk mv r) := fun S s σ H Q rel p =>
  ev_of h1 S s σ H _ rel (Pst.bind bKV p fun S1 s1 H1 x a st1 rel1 i1 p1 => ev_of h2 S1 s1 σ H1 _ rel1 (Pst.bind bKV p1 fun S2 s2 H2 y b st2 rel2 i2 p2 => h3 S2 s2 σ H2 _ rel2 (Pst.bind bKV p2 fun S3 s3 H3 z l st3 rel3 i3 p3 =>
    p3 S3 ((x, y) :: z) H3 .refl rel3 ⟨.cons (Rp.step (st2.trans st3) i1) i3.1, .cons (Rp.step st3 i2) i3.2⟩)))
def kvKeys : List (D × D) → Option (List (Key × D))
  | [] => some []
  | (k, d) :: l => (keyOf k).bind fun k' => (kvKeys l).map ((k', d) :: ·)
theorem kvKeys_rp {G : Hp} {α : Nat → Addr} {n : Nat} : ∀ {l : List (D × D)} {ps : List (V × V)} {kl : List (Key × D)}, RpL K G α n (ps.map Prod.fst) (l.map Prod.fst) → RpL K G α n (ps.map Prod.snd) (l.map Prod.snd) → kvKeys l = some kl → ∃ kvs : List (Key × V), ps = kvs.map (fun kv => (kV kv.1, kv.2)) ∧ RpK K G α n kvs kl ∧ kvs.length = kl.length
  | [], [], _, _, _, e => by cases e; exact ⟨[], rfl, .nil, rfl⟩
  | [], _ :: _, _, h, _, _ => by cases h
  | _ :: _, [], _, h, _, _ => by cases h
  | (k, d) :: l, (x, y) :: ps, kl, .cons h1 h2, .cons g1 g2, e => by
    obtain ⟨k', e1, e2⟩ := Option.bind_eq_some_iff.mp (show (keyOf k).bind (fun k' => (kvKeys l).map ((k', d) :: ·)) = some kl from e)
    obtain ⟨kl', e3, rfl⟩ := Option.map_eq_some_iff.mp e2
    obtain ⟨kvs, rfl, r, hl⟩ := kvKeys_rp h2 g2 e3
    refine ⟨(k', y) :: kvs, ?_, .cons g1 r, by rw [List.length_cons, List.length_cons, hl]⟩
    show (x, y) :: _ = (kV k', y) :: _
    rw [show x = kV k' from keyOf_rp h1 e1]
def mDisp (r : Mo (List (D × D))) : Mo AI := fun s => (r s).bind fun l s1 => match kvKeys l with
  | some kl => if kl.length ≤ 15 then .ok (.new (.dK (mgD kl))) s1 else .no
  | none => .no
theorem ei_disp {trs : List (TE × TE)} {r : Mo (List (D × D))} (h : Ekv K ct H0 W trs r) : Ei K ct H0 W (tDisp trs) (mDisp r) := fun S s σ H Q rel p pa hp => by
  have hlab := rel.labN hp
  have hg := rel.gN hp
  have st0 : Stp S s.M.length H S s.M.length (upd H pa (.dK [])) := Stp.new rel hp
  refine h S s σ (upd H pa (.dK [])) _ (rel.new hp) ?_
  unfold mDisp at p
  cases q : r s with
  | no => rw [q] at p; exact p
  | er x s' =>
    rw [q] at p
    exact fun S' H' dd st r' xo => p S' H' dd (st0.trans st) r' xo
  | ok l s1 =>
    rw [q] at p
    have p : Pst K ct H0 (RI K ct) W S s σ H Q (match kvKeys l with | some kl => if kl.length ≤ 15 then .ok (.new (.dK (mgD kl))) s1 else .no | none => .no) := p
    intro S1 ps H1 st1 rel1 i1
    obtain ⟨h1, h2⟩ := st1.fr pa _ upd_same hlab
    have hg1 : S1.G pa = none := by
      cases q2 : S1.G pa with
      | none => rfl
      | some u =>
        rcases st1.gn pa u q2 with z | z | ⟨lb, z⟩
        · rw [hg] at z; cases z
        · rw [upd_same] at z; cases z
        · rw [hlab] at z; cases z
    refine ⟨h1, ?_⟩
    split at p
    · rename_i kl e
      obtain ⟨kvs, e1, e2, e3⟩ := kvKeys_rp i1.1 i1.2 e
      split at p
      · rename_i hz
        refine ⟨kvs, e1, by omega, ?_⟩
        refine p S1 (.ref pa) _ ((st0.trans st1).updNew hp) (rel1.updU h2 hg1) ⟨pa, rfl, hp, h2, hg1, rfl, mergeK [] kvs, upd_same, ?_⟩
        have := mg_ok e2 (.nil : RpK K S1.G S1.α s1.M.length [] [])
        exact ⟨this.keys, this.vals⟩
      · exact False.elim p
    · exact False.elim p
/-! ## setdefault: keys numbers and texts; what is put in may be a new list, which becomes a cell -/
def mSetD (mo mi mx : Mo AI) : Mo AI := fun s => (mo s).bind fun a s1 => match viewD s1 a with
  | some _ => (mV mi s1).bind fun i s2 => (mK mx s2).bind fun x s3 => match getC s3 a, keyOf i with
    | some (.dK l), some k => if l.length < sizeLine then (match vl l k with
      | some d => .ok (.val d) s3
      | none => .ok (.val x) (setC s3 a (.dK (pu l k x)))) else .no
    | _, _ => .no
  | none => .no
theorem ei_setD {td ty tx : TE} {mo mi mx : Mo AI} (ho : Ei K ct H0 W td mo) (hi : Ei K ct H0 W ty mi) (hx : Ei K ct H0 W tx mx) : Ei K ct H0 W (tDSetd td ty tx) (mSetD mo mi mx) := fun S s σ H Q rel p =>
  ho S s σ H _ rel (Pst.bind bI p fun S1 s1 H1 x a st1 rel1 i1 p1 => by
    split at p1
    · rename_i l0 e0
      obtain ⟨q, kvs0, rfl, hd, _⟩ := viewD_ok rel1 i1 e0
      refine ⟨q, rfl, .inl ⟨kvs0, hd⟩, ?_⟩
      refine ev_of hi S1 s1 σ H1 _ rel1 (Pst.bind bI p1 fun S2 s2 H2 y i st2 rel2 i2 p2 => ek_of hx S2 s2 σ H2 _ rel2 (Pst.bind bI p2 fun S3 s3 H3 z xd st3 rel3 i3 p3 => ?_))
      split at p3
      · rename_i l k e1 e2
        have ia := ItOk.step (st2.trans st3) i1
        obtain ⟨q', eq, ⟨us, g1, g2, g3⟩, g4⟩ := mut_ok rel3 ia e1
        cases eq
        split at p3
        · rename_i hz
          have rk := RpK.of g2 g3
          refine ⟨us, k, g1, keyOf_rp (Rp.step st3 i2) e2, by rw [rk.len]; exact hz, fun v hv => ?_, fun hn => ?_⟩
          · rcases rk.get (k := k) with ⟨_, b⟩ | ⟨v', d, h1, h2, h3⟩
            · rw [hv] at b; cases b
            · rw [hv] at h2; cases h2
              rw [h1] at p3
              exact p3 S3 v H3 .refl rel3 h3
          · rcases rk.get (k := k) with ⟨h1, _⟩ | ⟨v', d, h1, h2, h3⟩
            · rw [h1] at p3
              obtain ⟨r1, r2⟩ := g4 (.dK (putK us k z)) (.dK (pu l k xd)) (fun _ => rfl) ⟨_, upd_same, (rk.put i3).keys, (rk.put i3).vals⟩
              refine p3 S3 z _ r2 r1 ?_
              show Rp K S3.G S3.α (setC s3 a (.dK (pu l k xd))).M.length z xd
              rw [setC_len]; exact i3
            · rw [hn] at h2; cases h2
        · exact False.elim p3
      · exact False.elim p3
    · exact False.elim p1)
/-! ## a, b = a list of that length -/
theorem pg_lstZ {X : Cx} {K : PySem.W.Frag} {es : List Expr} {k : Nat} {t : TGs} {n : Nat} {pos : Pos} (hK : X.K = K) (hc : X.calm = true) (h : PGs X es t)
    (hn : (assignEach es X.env).length = n := by rfl) (hst : (assignEach es X.env).findIdx? (·.1) = none := by rfl) : PG X (.Tuple es k pos) (gLst K n t) := by subst hK; exact pg_lst hc h hn hst
def tgL (n : Nat) (f : Tgs) : Tg := fun d s => match listOf s.M d with
  | some l => if l.length = n then f l s else none
  | none => none
theorem sg_lst {js : List Nat} {n : Nat} {gs : TGs} {f : Tgs} (h : Sgs K ct H0 js gs f) : Sg K ct H0 js (gLst K n gs) (tgL n f) := fun S s σ H v d s' Q rel r e q => by
  unfold tgL at e
  split at e
  · rename_i l el
    split at e
    · rename_i hl
      obtain ⟨p, vs, rfl, k1, k2⟩ := viewL_ok (Hs := H) (a := .val d) (v := v) rel r (by unfold viewL look; exact el)
      exact ⟨p, vs, rfl, k1, by rw [k2.length]; exact hl, h S s σ H vs l s' Q rel k2 e q⟩
    · cases e
  · cases e
theorem sv_asgL {js : List Nat} {n : Nat} {gs : TGs} {f : Tg} {te : TE} {m : Mo AI} (hg : Sg K ct H0 js (gLst K n gs) f) (h : Ei K ct H0 W te m) : Sv K ct H0 W (tAsg te (gLst K n gs)) (mAsgT f m) := fun S s σ H Dn rel p =>
  ev_of h S s σ H _ rel (PstS.bind p fun S1 s1 H1 x a st1 rel1 i1 p1 => by
    show gLst K n gs x σ H1 Dn.nx
    split at p1
    · rename_i s2 e
      exact hg S1 s1 σ H1 x a s2 _ rel1 i1 e fun S2 σ2 st2 rel2 _ _ _ => p1 S2 σ2 H1 (st1.trans st2) rel2
    · exact False.elim p1)
end
section
variable {s : Stt} {X : Exn → Stt → Prop} {QA : AI → Stt → Prop}
theorem w_ins {a : AI} {l : List D} {i : Int} {d : D} (e : getC s a = some (.lst l)) (c : l.length < sizeLine ∧ 0 ≤ i ∧ i < 2 ^ 63) (h : QA (.val .non) (setC s a (.lst (l.take i.toNat ++ [d] ++ l.drop i.toNat)))) : Wo QA X (fIns s a [.int i, d]) := by
  show Wo QA X (match [D.int i, d], getC s a with | [.int i, d], some (.lst l) => if l.length < sizeLine ∧ 0 ≤ i ∧ i < 2 ^ 63 then .ok (.val .non) (setC s a (.lst (l.take i.toNat ++ [d] ++ l.drop i.toNat))) else .no | _, _ => .no)
  rw [e]
  show Wo QA X (if l.length < sizeLine ∧ 0 ≤ i ∧ i < 2 ^ 63 then _ else _)
  rw [if_pos c]
  exact h
theorem w_popA {a : AI} {l : List D} {i : Int} {d : D} (e : getC s a = some (.lst l)) (c : 0 ≤ i ∧ i < l.length ∧ i < 2 ^ 63) (e2 : l[i.toNat]? = some d) (h : QA (.val d) (setC s a (.lst (l.eraseIdx i.toNat)))) : Wo QA X (fPopA s a [.int i]) := by
  show Wo QA X (match [D.int i], getC s a with | [.int i], some (.lst l) => if 0 ≤ i ∧ i < l.length ∧ i < 2 ^ 63 then (match l[i.toNat]? with | some d => .ok (.val d) (setC s a (.lst (l.eraseIdx i.toNat))) | none => .no) else .no | _, _ => .no)
  rw [e]
  show Wo QA X (if 0 ≤ i ∧ i < l.length ∧ i < 2 ^ 63 then _ else _)
  rw [if_pos c]
  show Wo QA X (match l[i.toNat]? with | some d => .ok (.val d) (setC s a (.lst (l.eraseIdx i.toNat))) | none => .no)
  rw [e2]
  exact h
theorem w_lcG {ws : List Nat} {mi : Mo Im} {g : Tg} {c : Mo Bool} {e : Mo D} (h : Wo (fun im s1 => ∃ l s2, lcN ws g c e im.ck im.xs [] (wipeS ws s1) = .ok l s2 ∧ QA (.new (.lst l)) ⟨Y.rest s1.env s2.env ws, s2.M⟩) X (mi s)) : Wo QA X (mLcG ws mi g c e s) := by
  unfold mLcG
  cases q : mi s with
  | no => rw [q] at h; exact h
  | er x s1 => rw [q] at h; exact h
  | ok im s1 =>
    rw [q] at h
    obtain ⟨l, s2, e1, e2⟩ := h
    show Wo QA X (match lcN ws g c e im.ck im.xs [] (wipeS ws s1) with | .ok l s2 => .ok (.new (.lst l)) ⟨rest s1.env s2.env ws, s2.M⟩ | _ => .no)
    rw [e1]; exact e2
theorem w_lr2 {m1 m2 : Mo AI} (h : Wo (fun a s1 => Wo (fun b s2 => ∃ i j : Int, a = .val (.int i) ∧ b = .val (.int j) ∧ (-(2 ^ 62) ≤ i ∧ i < 2 ^ 62 ∧ -(2 ^ 62) ≤ j ∧ j < 2 ^ 62 ∧ (j - i).toNat ≤ sizeLine) ∧ QA (.new (.lst (rng i (j - i).toNat))) s2) X (m2 s1)) X (m1 s)) : Wo QA X (mLR2 m1 m2 s) := by
  refine w_bind (w_mono h fun a s1 h => w_bind (w_mono h fun b s2 h => ?_))
  obtain ⟨i, j, rfl, rfl, c, h⟩ := h
  show Wo QA X (if _ then _ else _)
  rw [if_pos c]; exact h
theorem w_kvNil {QK : List (D × D) → Stt → Prop} (h : QK [] s) : Wo QK X (kvNil s) := h
theorem w_kvCons {QK : List (D × D) → Stt → Prop} {mk mv : Mo AI} {r : Mo (List (D × D))} (h : Wo (fun a s1 => Wo (fun b s2 => Wo (fun l s3 => QK ((a, b) :: l) s3) X (r s2)) X (mV mv s1)) X (mV mk s)) : Wo QK X (kvCons mk mv r s) :=
  w_bind (w_mono h fun a s1 h => w_bind (w_mono h fun b s2 h => w_bind (w_mono h fun l s3 h => h)))
theorem w_disp {r : Mo (List (D × D))} (h : Wo (fun l s1 => ∃ kl, kvKeys l = some kl ∧ kl.length ≤ 15 ∧ QA (.new (.dK (mgD kl))) s1) X (r s)) : Wo QA X (mDisp r s) := by
  refine w_bind (w_mono h fun l s1 h => ?_)
  obtain ⟨kl, e, c, h⟩ := h
  rw [e]
  show Wo QA X (if _ then _ else _)
  rw [if_pos c]; exact h
theorem w_setD {m1 m2 m3 : Mo AI} (h : Wo (fun a s1 => (∃ l, viewD s1 a = some l) ∧ Wo (fun i s2 => Wo (fun x s3 => ∃ l k, getC s3 a = some (.dK l) ∧ keyOf i = some k ∧ l.length < sizeLine ∧ (match vl l k with
      | some d => QA (.val d) s3
      | none => QA (.val x) (setC s3 a (.dK (pu l k x))))) X (mK m3 s2)) X (mV m2 s1)) X (m1 s)) : Wo QA X (mSetD m1 m2 m3 s) := by
  refine w_bind (w_mono h fun a s1 h => ?_)
  obtain ⟨⟨l0, e0⟩, h⟩ := h
  rw [e0]
  refine w_bind (w_mono h fun i s2 h => w_bind (w_mono h fun x s3 h => ?_))
  obtain ⟨l, k, e1, e2, c, h⟩ := h
  rw [e1, e2]
  show Wo QA X (if _ then _ else _)
  rw [if_pos c]
  cases q : vl l k with
  | some d => rw [q] at h; exact h
  | none => rw [q] at h; exact h
theorem w_str {i : Int} (c : i.natAbs.log2 < 1920) (h : QA (.val (.str (toString i))) s) : Wo QA X (fStr s [.val (.int i)]) := by
  show Wo QA X (if i.natAbs.log2 < 1920 then _ else _)
  rw [if_pos c]; exact h
end
end Y

namespace K42
open PySem L2 Z Y
def top (i : Nat) : Stmt := PySem.Challenge.pw_tornshelf_k42_books_at_places.main.body.getD i (.Pass ⟨0, 0, 0, 0⟩)
abbrev s_crc_on : Stmt := (top 4)
theorem sc_crc_on : FnScope ["begun", "row", "found", "byte", "k"] ["begun", "row"] (defScope s_crc_on) := ⟨rfl, rfl, rfl, by decide +kernel, rfl, by decide +kernel, by decide +kernel⟩
abbrev s_crc : Stmt := (top 5)
theorem sc_crc : FnScope ["row"] ["row"] (defScope s_crc) := ⟨rfl, rfl, rfl, by decide +kernel, rfl, by decide +kernel, by decide +kernel⟩
abbrev s_crc_row : Stmt := (top 6)
theorem sc_crc_row : FnScope ["row", "found"] ["row"] (defScope s_crc_row) := ⟨rfl, rfl, rfl, by decide +kernel, rfl, by decide +kernel, by decide +kernel⟩
abbrev s_Cursor_init : Stmt := (inClass (top 14) 0)
theorem sc_Cursor_init : FnScope ["self", "row", "place"] ["self", "row", "place"] (defScope s_Cursor_init) := ⟨rfl, rfl, rfl, by decide +kernel, rfl, by decide +kernel, by decide +kernel⟩
abbrev s_Cursor_number : Stmt := (inClass (top 14) 1)
theorem sc_Cursor_number : FnScope ["self", "many", "part", "number", "byte"] ["self", "many"] (defScope s_Cursor_number) := ⟨rfl, rfl, rfl, by decide +kernel, rfl, by decide +kernel, by decide +kernel⟩
abbrev s_read_name : Stmt := (top 15)
theorem sc_read_name : FnScope ["cursor", "many", "told", "k", "byte"] ["cursor"] (defScope s_read_name) := ⟨rfl, rfl, rfl, by decide +kernel, rfl, by decide +kernel, by decide +kernel⟩
abbrev s_read_entry : Stmt := (top 16)
theorem sc_read_entry : FnScope ["cursor", "text", "name", "many", "length", "places", "k"] ["cursor"] (defScope s_read_entry) := ⟨rfl, rfl, rfl, by decide +kernel, rfl, by decide +kernel, by decide +kernel⟩
abbrev s_may_follow : Stmt := (top 17)
theorem sc_may_follow : FnScope ["entry", "entries", "other"] ["entry", "entries"] (defScope s_may_follow) := ⟨rfl, rfl, rfl, by decide +kernel, rfl, by decide +kernel, by decide +kernel⟩
abbrev s_book_at : Stmt := (top 18)
theorem sc_book_at : FnScope ["row", "place", "cursor", "many", "entries", "k", "entry", "behind"] ["row", "place"] (defScope s_book_at) := ⟨rfl, rfl, rfl, by decide +kernel, rfl, by decide +kernel, by decide +kernel⟩
abbrev s_l_draw : Stmt := (top 20)
theorem sc_l_draw : FnScope ["_law_cell"] ["_law_cell"] (defScope s_l_draw) := ⟨rfl, rfl, rfl, by decide +kernel, rfl, by decide +kernel, by decide +kernel⟩
abbrev s_l_next : Stmt := (top 21)
theorem sc_l_next : FnScope ["_law_draw_here", "_law_size", "_law_digit", "_law_number"] ["_law_draw_here", "_law_size"] (defScope s_l_next) := ⟨rfl, rfl, rfl, by decide +kernel, rfl, by decide +kernel, by decide +kernel⟩
abbrev s_l_sum : Stmt := (top 22)
theorem sc_l_sum : FnScope ["_law_row", "_law_found", "_law_byte", "_law_k"] ["_law_row"] (defScope s_l_sum) := ⟨rfl, rfl, rfl, by decide +kernel, rfl, by decide +kernel, by decide +kernel⟩
abbrev s_l_name : Stmt := (top 23)
theorem sc_l_name : FnScope ["_law_draw_here", "_law_signs", "_law_size", "_law_k"] ["_law_draw_here"] (defScope s_l_name) := ⟨rfl, rfl, rfl, by decide +kernel, rfl, by decide +kernel, by decide +kernel⟩
abbrev s_l_name_bytes : Stmt := (top 24)
theorem sc_l_name_bytes : FnScope ["_law_name_here", "_law_signs", "_law_found", "_law_sign"] ["_law_name_here"] (defScope s_l_name_bytes) := ⟨rfl, rfl, rfl, by decide +kernel, rfl, by decide +kernel, by decide +kernel⟩
abbrev s_l_entry : Stmt := (top 25)
theorem sc_l_entry : FnScope ["_law_entry_here", "_law_text", "_law_name_here", "_law_length", "_law_places_here", "_law_row", "_law_place"] ["_law_entry_here"] (defScope s_l_entry) := ⟨rfl, rfl, rfl, by decide +kernel, rfl, by decide +kernel, by decide +kernel⟩
abbrev s_l_places : Stmt := (top 27)
theorem sc_l_places : FnScope ["_law_draw_here", "_law_most", "_law_many", "_law_found", "_law_k", "_law_way"] ["_law_draw_here", "_law_most"] (defScope s_l_places) := ⟨rfl, rfl, rfl, by decide +kernel, rfl, by decide +kernel, by decide +kernel⟩
abbrev s_l_entries : Stmt := (top 28)
theorem sc_l_entries : FnScope ["_law_draw_here", "_law_left", "_law_entries_here", "_law_text", "_law_k", "_law_name_here", "_law_places_here", "_law_length", "_law_entry_here"] ["_law_draw_here", "_law_left"] (defScope s_l_entries) := ⟨rfl, rfl, rfl, by decide +kernel, rfl, by decide +kernel, by decide +kernel⟩
abbrev s_l_spoilt_rows : Stmt := (top 29)
theorem sc_l_spoilt_rows : FnScope ["_law_draw_here", "_law_entries_here", "_law_rows", "_law_way", "_law_at", "_law_twin", "_law_sign", "_law_other", "_law_places_here"] ["_law_draw_here", "_law_entries_here", "_law_rows"] (defScope s_l_spoilt_rows) := ⟨rfl, rfl, rfl, by decide +kernel, rfl, by decide +kernel, by decide +kernel⟩
abbrev s_l_spoilt : Stmt := (top 30)
theorem sc_l_spoilt : FnScope ["_law_draw_here", "_law_entries_here", "_law_rows", "_law_way", "_law_told", "_law_row", "_law_entry_here", "_law_k"] ["_law_draw_here", "_law_entries_here"] (defScope s_l_spoilt) := ⟨rfl, rfl, rfl, by decide +kernel, rfl, by decide +kernel, by decide +kernel⟩
abbrev s_l_name_at : Stmt := (top 31)
theorem sc_l_name_at : FnScope ["_law_row", "_law_at", "_law_signs", "_law_k", "_law_many", "_law_name_here", "_law_byte"] ["_law_row", "_law_at"] (defScope s_l_name_at) := ⟨rfl, rfl, rfl, by decide +kernel, rfl, by decide +kernel, by decide +kernel⟩
abbrev s_l_entry_at : Stmt := (top 32)
theorem sc_l_entry_at : FnScope ["_law_row", "_law_at", "_law_name_here", "_law_rest", "_law_length", "_law_places_here", "_law_k", "_law_high", "_law_middle", "_law_low"] ["_law_row", "_law_at"] (defScope s_l_entry_at) := ⟨rfl, rfl, rfl, by decide +kernel, rfl, by decide +kernel, by decide +kernel⟩
abbrev s_l_due : Stmt := (top 33)
theorem sc_l_due : FnScope ["_law_row", "_law_place", "_law_at", "_law_entries_here", "_law_k", "_law_found", "_law_entry_here", "_law_other"] ["_law_row", "_law_place"] (defScope s_l_due) := ⟨rfl, rfl, rfl, by decide +kernel, rfl, by decide +kernel, by decide +kernel⟩
abbrev s_law : Stmt := (top 34)
theorem sc_law : FnScope ["_law_script", "_law_k", "_law_draw_here", "_law_row", "_law_j", "_law_handed", "_law_place"] ["_law_script"] (defScope s_law) := ⟨rfl, rfl, rfl, by decide +kernel, rfl, by decide +kernel, by decide +kernel⟩
/-- what the top has written -/
structure Tx (K : PySem.W.Frag) (mg : Str → Option Value) where
  a_crc_on : Addr
  d_crc_on : FuncData
  F_crc_on : Fun K "crc_on" "crc_on" s_crc_on a_crc_on d_crc_on
  b_crc_on : Binds K d_crc_on ["begun", "row"] []
  g_crc_on : mg "crc_on" = some (.ref a_crc_on)
  a_crc : Addr
  d_crc : FuncData
  F_crc : Fun K "crc" "crc" s_crc a_crc d_crc
  b_crc : Binds K d_crc ["row"] []
  g_crc : mg "crc" = some (.ref a_crc)
  a_crc_row : Addr
  d_crc_row : FuncData
  F_crc_row : Fun K "crc_row" "crc_row" s_crc_row a_crc_row d_crc_row
  b_crc_row : Binds K d_crc_row ["row"] []
  g_crc_row : mg "crc_row" = some (.ref a_crc_row)
  a_Cursor_init : Addr
  d_Cursor_init : FuncData
  F_Cursor_init : Fun K "__init__" "Cursor.__init__" s_Cursor_init a_Cursor_init d_Cursor_init
  b_Cursor_init : Binds K d_Cursor_init ["self", "row", "place"] []
  a_Cursor_number : Addr
  d_Cursor_number : FuncData
  F_Cursor_number : Fun K "number" "Cursor.number" s_Cursor_number a_Cursor_number d_Cursor_number
  b_Cursor_number : Binds K d_Cursor_number ["self", "many"] []
  a_read_name : Addr
  d_read_name : FuncData
  F_read_name : Fun K "read_name" "read_name" s_read_name a_read_name d_read_name
  b_read_name : Binds K d_read_name ["cursor"] []
  g_read_name : mg "read_name" = some (.ref a_read_name)
  a_read_entry : Addr
  d_read_entry : FuncData
  F_read_entry : Fun K "read_entry" "read_entry" s_read_entry a_read_entry d_read_entry
  b_read_entry : Binds K d_read_entry ["cursor"] []
  g_read_entry : mg "read_entry" = some (.ref a_read_entry)
  a_may_follow : Addr
  d_may_follow : FuncData
  F_may_follow : Fun K "may_follow" "may_follow" s_may_follow a_may_follow d_may_follow
  b_may_follow : Binds K d_may_follow ["entry", "entries"] []
  g_may_follow : mg "may_follow" = some (.ref a_may_follow)
  a_book_at : Addr
  d_book_at : FuncData
  F_book_at : Fun K "book_at" "book_at" s_book_at a_book_at d_book_at
  b_book_at : Binds K d_book_at ["row", "place"] []
  g_book_at : mg "book_at" = some (.ref a_book_at)
  a_l_draw : Addr
  d_l_draw : FuncData
  F_l_draw : Fun K "_law_draw" "_law_draw" s_l_draw a_l_draw d_l_draw
  b_l_draw : Binds K d_l_draw ["_law_cell"] []
  g_l_draw : mg "_law_draw" = some (.ref a_l_draw)
  a_l_next : Addr
  d_l_next : FuncData
  F_l_next : Fun K "_law_next" "_law_next" s_l_next a_l_next d_l_next
  b_l_next : Binds K d_l_next ["_law_draw_here", "_law_size"] []
  g_l_next : mg "_law_next" = some (.ref a_l_next)
  a_l_sum : Addr
  d_l_sum : FuncData
  F_l_sum : Fun K "_law_sum" "_law_sum" s_l_sum a_l_sum d_l_sum
  b_l_sum : Binds K d_l_sum ["_law_row"] []
  g_l_sum : mg "_law_sum" = some (.ref a_l_sum)
  a_l_name : Addr
  d_l_name : FuncData
  F_l_name : Fun K "_law_name" "_law_name" s_l_name a_l_name d_l_name
  b_l_name : Binds K d_l_name ["_law_draw_here"] []
  g_l_name : mg "_law_name" = some (.ref a_l_name)
  a_l_name_bytes : Addr
  d_l_name_bytes : FuncData
  F_l_name_bytes : Fun K "_law_name_bytes" "_law_name_bytes" s_l_name_bytes a_l_name_bytes d_l_name_bytes
  b_l_name_bytes : Binds K d_l_name_bytes ["_law_name_here"] []
  g_l_name_bytes : mg "_law_name_bytes" = some (.ref a_l_name_bytes)
  a_l_entry : Addr
  d_l_entry : FuncData
  F_l_entry : Fun K "_law_entry" "_law_entry" s_l_entry a_l_entry d_l_entry
  b_l_entry : Binds K d_l_entry ["_law_entry_here"] []
  g_l_entry : mg "_law_entry" = some (.ref a_l_entry)
  a_l_places : Addr
  d_l_places : FuncData
  F_l_places : Fun K "_law_places" "_law_places" s_l_places a_l_places d_l_places
  b_l_places : Binds K d_l_places ["_law_draw_here", "_law_most"] []
  g_l_places : mg "_law_places" = some (.ref a_l_places)
  a_l_entries : Addr
  d_l_entries : FuncData
  F_l_entries : Fun K "_law_entries" "_law_entries" s_l_entries a_l_entries d_l_entries
  b_l_entries : Binds K d_l_entries ["_law_draw_here", "_law_left"] []
  g_l_entries : mg "_law_entries" = some (.ref a_l_entries)
  a_l_spoilt_rows : Addr
  d_l_spoilt_rows : FuncData
  F_l_spoilt_rows : Fun K "_law_spoilt_rows" "_law_spoilt_rows" s_l_spoilt_rows a_l_spoilt_rows d_l_spoilt_rows
  b_l_spoilt_rows : Binds K d_l_spoilt_rows ["_law_draw_here", "_law_entries_here", "_law_rows"] []
  g_l_spoilt_rows : mg "_law_spoilt_rows" = some (.ref a_l_spoilt_rows)
  a_l_spoilt : Addr
  d_l_spoilt : FuncData
  F_l_spoilt : Fun K "_law_spoilt" "_law_spoilt" s_l_spoilt a_l_spoilt d_l_spoilt
  b_l_spoilt : Binds K d_l_spoilt ["_law_draw_here", "_law_entries_here"] []
  g_l_spoilt : mg "_law_spoilt" = some (.ref a_l_spoilt)
  a_l_name_at : Addr
  d_l_name_at : FuncData
  F_l_name_at : Fun K "_law_name_at" "_law_name_at" s_l_name_at a_l_name_at d_l_name_at
  b_l_name_at : Binds K d_l_name_at ["_law_row", "_law_at"] []
  g_l_name_at : mg "_law_name_at" = some (.ref a_l_name_at)
  a_l_entry_at : Addr
  d_l_entry_at : FuncData
  F_l_entry_at : Fun K "_law_entry_at" "_law_entry_at" s_l_entry_at a_l_entry_at d_l_entry_at
  b_l_entry_at : Binds K d_l_entry_at ["_law_row", "_law_at"] []
  g_l_entry_at : mg "_law_entry_at" = some (.ref a_l_entry_at)
  a_l_due : Addr
  d_l_due : FuncData
  F_l_due : Fun K "_law_due" "_law_due" s_l_due a_l_due d_l_due
  b_l_due : Binds K d_l_due ["_law_row", "_law_place"] []
  g_l_due : mg "_law_due" = some (.ref a_l_due)
  a_law : Addr
  d_law : FuncData
  F_law : Fun K "law" "law" s_law a_law d_law
  b_law : Binds K d_law ["_law_script"] []
  g_law : mg "law" = some (.ref a_law)
  C_Cursor : Addr
  g_Cursor : mg "Cursor" = some (.ref C_Cursor)
  cl_Cursor : Cls K C_Cursor
  n_Cursor_source : NoAttr K C_Cursor "source"
  n_Cursor_spot : NoAttr K C_Cursor "spot"
  n_Cursor_short : NoAttr K C_Cursor "short"
  K_Cursor : Mk K C_Cursor a_Cursor_init
  M_Cursor_number : Meth K C_Cursor "number" a_Cursor_number
  z_all : mg "all" = none
  z_int : mg "int" = none
  z_len : mg "len" = none
  z_list : mg "list" = none
  z_max : mg "max" = none
  z_min : mg "min" = none
  z_range : mg "range" = none
  z_str : mg "str" = none
  u_BEGIN : Value
  m_BEGIN : mg "BEGIN" = some u_BEGIN
  r_BEGIN : RelV (.int 65535) u_BEGIN
  u_FEED : Value
  m_FEED : mg "FEED" = some u_FEED
  r_FEED : RelV (.int 4129) u_FEED
  u_TOP : Value
  m_TOP : mg "TOP" = some u_TOP
  r_TOP : RelV (.int 32768) u_TOP
  u_MARK : Addr
  m_MARK : mg "MARK" = some (.ref u_MARK)
  r_MARK : Y.KL K u_MARK (List.map V.int [165, 91])
  u_MOST_ENTRIES : Value
  m_MOST_ENTRIES : mg "MOST_ENTRIES" = some u_MOST_ENTRIES
  r_MOST_ENTRIES : RelV (.int 30) u_MOST_ENTRIES
  u_MOST_SIGNS : Value
  m_MOST_SIGNS : mg "MOST_SIGNS" = some u_MOST_SIGNS
  r_MOST_SIGNS : RelV (.int 12) u_MOST_SIGNS
  u_NAME_SIGNS : Value
  m_NAME_SIGNS : mg "NAME_SIGNS" = some u_NAME_SIGNS
  r_NAME_SIGNS : RelV (.str (PySem.Str.ofString "-.0123456789abcdefghijklmnopqrstuvwxyz")) u_NAME_SIGNS
  u_NAME_BYTES : Addr
  m_NAME_BYTES : mg "NAME_BYTES" = some (.ref u_NAME_BYTES)
  r_NAME_BYTES : Y.KT K u_NAME_BYTES (List.map V.int [45, 46, 48, 49, 50, 51, 52, 53, 54, 55, 56, 57, 97, 98, 99, 100, 101, 102, 103, 104, 105, 106, 107, 108, 109, 110, 111, 112, 113, 114, 115, 116, 117, 118, 119, 120, 121, 122])
  dn_NAME_BYTES : ∃ o, K.lookup u_NAME_BYTES = some o ∧ o.cls = .type "tuple" ∧ o.dict = none
  u_MOST_NUMBER : Value
  m_MOST_NUMBER : mg "MOST_NUMBER" = some u_MOST_NUMBER
  r_MOST_NUMBER : RelV (.int 254) u_MOST_NUMBER
def fs_Cursor (x0 x1 x2 : V) : List (Str × V) := [("source", x0), ("spot", x1), ("short", x2)]
theorem rd_Cursor_source {K : PySem.W.Frag} {mg : Str → Option Value} (T : Tx K mg) {H : Hp} {p dx : Addr} {x0 x1 x2 : V} (ho : H p = some (.ins T.C_Cursor dx (fs_Cursor x0 x1 x2))) {Q : VK} (h : Q x0 H) : rFld K "source" (.ref p) H Q := ⟨p, _, dx, _, _, rfl, ho, T.cl_Cursor, T.n_Cursor_source, lkf_hd, h⟩
theorem pt_Cursor_source {x0 x1 x2 y : V} : putF "source" y (fs_Cursor x0 x1 x2) = fs_Cursor y x1 x2 := ptf_hd
theorem wr_Cursor_source {K : PySem.W.Frag} {mg : Str → Option Value} (T : Tx K mg) {H : Hp} {p dx : Addr} {x0 x1 x2 : V} (ho : H p = some (.ins T.C_Cursor dx (fs_Cursor x0 x1 x2))) {y : V} {R : Hp → Prop} (h : R (upd H p (.ins T.C_Cursor dx (fs_Cursor y x1 x2)))) : wFld K "source" (.ref p) y H R := ⟨p, _, dx, _, rfl, ho, T.cl_Cursor, T.n_Cursor_source, (by show 3 < 1000; decide), by rw [pt_Cursor_source]; exact h⟩
theorem ba_Cursor_source {K : PySem.W.Frag} {mg : Str → Option Value} (T : Tx K mg) {H : Hp} {p dx : Addr} {x0 x1 x2 : V} (ho : H p = some (.ins T.C_Cursor dx (fs_Cursor x0 x1 x2))) {R : Addr → Addr → V → Hp → Prop} (h : R p T.C_Cursor x0 H) : bFld K "source" (.ref p) H R := ⟨p, _, dx, _, _, rfl, ho, T.cl_Cursor, T.n_Cursor_source, lkf_hd, h⟩
theorem aw_Cursor_source {K : PySem.W.Frag} {mg : Str → Option Value} (T : Tx K mg) {H : Hp} {p dx : Addr} {x0 x1 x2 : V} (ho : H p = some (.ins T.C_Cursor dx (fs_Cursor x0 x1 x2))) {y : V} {R : Hp → Prop} (h : R (upd H p (.ins T.C_Cursor dx (fs_Cursor y x1 x2)))) : aFld p T.C_Cursor "source" y H R := ⟨dx, _, ho, (by show 3 < 1000; decide), by rw [pt_Cursor_source]; exact h⟩
theorem iw_Cursor_source {K : PySem.W.Frag} {mg : Str → Option Value} (T : Tx K mg) {H : Hp} {p dx : Addr} { y : V} (ho : H p = some (.ins T.C_Cursor dx [])) {R : Hp → Prop} (h : R (upd H p (.ins T.C_Cursor dx [("source", y)]))) : wFld K "source" (.ref p) y H R := ⟨p, _, dx, _, rfl, ho, T.cl_Cursor, T.n_Cursor_source, (by show 0 < 1000; decide), by rw [show putF "source" y ([] : List (Str × V)) = ([("source", y)] : List (Str × V)) from ptf_nil]; exact h⟩
theorem rd_Cursor_spot {K : PySem.W.Frag} {mg : Str → Option Value} (T : Tx K mg) {H : Hp} {p dx : Addr} {x0 x1 x2 : V} (ho : H p = some (.ins T.C_Cursor dx (fs_Cursor x0 x1 x2))) {Q : VK} (h : Q x1 H) : rFld K "spot" (.ref p) H Q := ⟨p, _, dx, _, _, rfl, ho, T.cl_Cursor, T.n_Cursor_spot, lkf_tl (by decide +kernel) (lkf_hd), h⟩
theorem pt_Cursor_spot {x0 x1 x2 y : V} : putF "spot" y (fs_Cursor x0 x1 x2) = fs_Cursor x0 y x2 := ptf_tl (by decide +kernel) (ptf_hd)
theorem wr_Cursor_spot {K : PySem.W.Frag} {mg : Str → Option Value} (T : Tx K mg) {H : Hp} {p dx : Addr} {x0 x1 x2 : V} (ho : H p = some (.ins T.C_Cursor dx (fs_Cursor x0 x1 x2))) {y : V} {R : Hp → Prop} (h : R (upd H p (.ins T.C_Cursor dx (fs_Cursor x0 y x2)))) : wFld K "spot" (.ref p) y H R := ⟨p, _, dx, _, rfl, ho, T.cl_Cursor, T.n_Cursor_spot, (by show 3 < 1000; decide), by rw [pt_Cursor_spot]; exact h⟩
theorem ba_Cursor_spot {K : PySem.W.Frag} {mg : Str → Option Value} (T : Tx K mg) {H : Hp} {p dx : Addr} {x0 x1 x2 : V} (ho : H p = some (.ins T.C_Cursor dx (fs_Cursor x0 x1 x2))) {R : Addr → Addr → V → Hp → Prop} (h : R p T.C_Cursor x1 H) : bFld K "spot" (.ref p) H R := ⟨p, _, dx, _, _, rfl, ho, T.cl_Cursor, T.n_Cursor_spot, lkf_tl (by decide +kernel) (lkf_hd), h⟩
theorem aw_Cursor_spot {K : PySem.W.Frag} {mg : Str → Option Value} (T : Tx K mg) {H : Hp} {p dx : Addr} {x0 x1 x2 : V} (ho : H p = some (.ins T.C_Cursor dx (fs_Cursor x0 x1 x2))) {y : V} {R : Hp → Prop} (h : R (upd H p (.ins T.C_Cursor dx (fs_Cursor x0 y x2)))) : aFld p T.C_Cursor "spot" y H R := ⟨dx, _, ho, (by show 3 < 1000; decide), by rw [pt_Cursor_spot]; exact h⟩
theorem iw_Cursor_spot {K : PySem.W.Frag} {mg : Str → Option Value} (T : Tx K mg) {H : Hp} {p dx : Addr} {x0 y : V} (ho : H p = some (.ins T.C_Cursor dx [("source", x0)])) {R : Hp → Prop} (h : R (upd H p (.ins T.C_Cursor dx [("source", x0), ("spot", y)]))) : wFld K "spot" (.ref p) y H R := ⟨p, _, dx, _, rfl, ho, T.cl_Cursor, T.n_Cursor_spot, (by show 1 < 1000; decide), by rw [show putF "spot" y ([("source", x0)] : List (Str × V)) = ([("source", x0), ("spot", y)] : List (Str × V)) from ptf_tl (by decide +kernel) (ptf_nil)]; exact h⟩
theorem rd_Cursor_short {K : PySem.W.Frag} {mg : Str → Option Value} (T : Tx K mg) {H : Hp} {p dx : Addr} {x0 x1 x2 : V} (ho : H p = some (.ins T.C_Cursor dx (fs_Cursor x0 x1 x2))) {Q : VK} (h : Q x2 H) : rFld K "short" (.ref p) H Q := ⟨p, _, dx, _, _, rfl, ho, T.cl_Cursor, T.n_Cursor_short, lkf_tl (by decide +kernel) (lkf_tl (by decide +kernel) (lkf_hd)), h⟩
theorem pt_Cursor_short {x0 x1 x2 y : V} : putF "short" y (fs_Cursor x0 x1 x2) = fs_Cursor x0 x1 y := ptf_tl (by decide +kernel) (ptf_tl (by decide +kernel) (ptf_hd))
theorem wr_Cursor_short {K : PySem.W.Frag} {mg : Str → Option Value} (T : Tx K mg) {H : Hp} {p dx : Addr} {x0 x1 x2 : V} (ho : H p = some (.ins T.C_Cursor dx (fs_Cursor x0 x1 x2))) {y : V} {R : Hp → Prop} (h : R (upd H p (.ins T.C_Cursor dx (fs_Cursor x0 x1 y)))) : wFld K "short" (.ref p) y H R := ⟨p, _, dx, _, rfl, ho, T.cl_Cursor, T.n_Cursor_short, (by show 3 < 1000; decide), by rw [pt_Cursor_short]; exact h⟩
theorem ba_Cursor_short {K : PySem.W.Frag} {mg : Str → Option Value} (T : Tx K mg) {H : Hp} {p dx : Addr} {x0 x1 x2 : V} (ho : H p = some (.ins T.C_Cursor dx (fs_Cursor x0 x1 x2))) {R : Addr → Addr → V → Hp → Prop} (h : R p T.C_Cursor x2 H) : bFld K "short" (.ref p) H R := ⟨p, _, dx, _, _, rfl, ho, T.cl_Cursor, T.n_Cursor_short, lkf_tl (by decide +kernel) (lkf_tl (by decide +kernel) (lkf_hd)), h⟩
theorem aw_Cursor_short {K : PySem.W.Frag} {mg : Str → Option Value} (T : Tx K mg) {H : Hp} {p dx : Addr} {x0 x1 x2 : V} (ho : H p = some (.ins T.C_Cursor dx (fs_Cursor x0 x1 x2))) {y : V} {R : Hp → Prop} (h : R (upd H p (.ins T.C_Cursor dx (fs_Cursor x0 x1 y)))) : aFld p T.C_Cursor "short" y H R := ⟨dx, _, ho, (by show 3 < 1000; decide), by rw [pt_Cursor_short]; exact h⟩
theorem iw_Cursor_short {K : PySem.W.Frag} {mg : Str → Option Value} (T : Tx K mg) {H : Hp} {p dx : Addr} {x0 x1 y : V} (ho : H p = some (.ins T.C_Cursor dx [("source", x0), ("spot", x1)])) {R : Hp → Prop} (h : R (upd H p (.ins T.C_Cursor dx [("source", x0), ("spot", x1), ("short", y)]))) : wFld K "short" (.ref p) y H R := ⟨p, _, dx, _, rfl, ho, T.cl_Cursor, T.n_Cursor_short, (by show 2 < 1000; decide), by rw [show putF "short" y ([("source", x0), ("spot", x1)] : List (Str × V)) = ([("source", x0), ("spot", x1), ("short", y)] : List (Str × V)) from ptf_tl (by decide +kernel) (ptf_tl (by decide +kernel) (ptf_nil))]; exact h⟩
theorem mt_Cursor_number {K : PySem.W.Frag} {mg : Str → Option Value} (T : Tx K mg) {H : Hp} {p dx : Addr} {x0 x1 x2 : V} (ho : H p = some (.ins T.C_Cursor dx (fs_Cursor x0 x1 x2))) {R : V → Hp → Prop} (h : R (.ref p) H) : rMeth T.C_Cursor "number" R (.ref p) H := z_methR ho (lkf_tl (by decide +kernel) (lkf_tl (by decide +kernel) (lkf_tl (by decide +kernel) (lkf_nil)))) h
local macro_rules | `(tactic| walk_at "z1") => `(tactic| first
  | ((with_reducible show Z.rFld _ _ _ _ _); first
    | ((with_reducible apply rd_Cursor_source); (focus (· walk_at "lk")))
    | ((with_reducible apply rd_Cursor_spot); (focus (· walk_at "lk")))
    | ((with_reducible apply rd_Cursor_short); (focus (· walk_at "lk"))))
  | ((with_reducible show Z.wFld _ _ _ _ _ _); first
    | ((with_reducible apply wr_Cursor_source); (focus (· walk_at "lk")))
    | ((with_reducible apply iw_Cursor_source); (focus (· walk_at "lk")))
    | ((with_reducible apply wr_Cursor_spot); (focus (· walk_at "lk")))
    | ((with_reducible apply iw_Cursor_spot); (focus (· walk_at "lk")))
    | ((with_reducible apply wr_Cursor_short); (focus (· walk_at "lk")))
    | ((with_reducible apply iw_Cursor_short); (focus (· walk_at "lk"))))
  | ((with_reducible show Z.bFld _ _ _ _ _); first
    | ((with_reducible apply ba_Cursor_source); (focus (· walk_at "lk")))
    | ((with_reducible apply ba_Cursor_spot); (focus (· walk_at "lk")))
    | ((with_reducible apply ba_Cursor_short); (focus (· walk_at "lk"))))
  | ((with_reducible show Z.aFld _ _ _ _ _ _); first
    | ((with_reducible apply aw_Cursor_source); (focus (· walk_at "lk")))
    | ((with_reducible apply aw_Cursor_spot); (focus (· walk_at "lk")))
    | ((with_reducible apply aw_Cursor_short); (focus (· walk_at "lk"))))
  | ((with_reducible show Z.rMeth _ _ _ _ _); first
    | ((with_reducible apply mt_Cursor_number); (focus (· walk_at "lk")))))
def ctT {K : PySem.W.Frag} {mg : Str → Option Value} (T : Tx K mg) : Ct := ⟨fun n => match n with
  | 0 => T.C_Cursor
  | _ => 0, none, none⟩
def spLaw (K : PySem.W.Frag) : Sp := fun vs H Q _ => ∃ (a : Addr) (ns : List Int), vs = [.ref a] ∧ SqL K H a (ns.map V.int) ∧ ns.length ≤ 63 ∧ ND H ∧ ∀ H', Q (.bl true) H'
theorem all_mk {l : PySem.W.OpenLaw} {w : World} {K : PySem.W.Frag} {h : Heap} {mg : Str → Option Value} {fa f0 f1 f2 f3 f4 f5 f6 f7 f8 f9 f10 f11 f12 f13 f14 f15 f16 f17 f18 f19 f20 f21 f22 C_Cursor : Addr} (hlaw : ∀ {P : Program} {w : World} {K : PySem.W.Frag} {mg : Str → Option Value} {base : Heap} (T : Tx K mg), FnOk P w K mg base CX0 5 T.a_law T.d_law ["_law_script"] (spLaw K)) (X : K.In h) (G : h.Ns mainGlobals mg) (hfa : mg "law" = some (.ref fa))
    {od0 an0 : Option Addr} {sl0 : Array (Option Value)} {oc0 kV0 dc0 pm0 cd0 ct0 : Value}
    {od1 an1 : Option Addr} {sl1 : Array (Option Value)} {oc1 kV1 dc1 pm1 cd1 ct1 : Value}
    {od2 an2 : Option Addr} {sl2 : Array (Option Value)} {oc2 kV2 dc2 pm2 cd2 ct2 : Value}
    {od3 an3 : Option Addr} {sl3 : Array (Option Value)} {oc3 kV3 dc3 pm3 cd3 ct3 : Value}
    {od4 an4 : Option Addr} {sl4 : Array (Option Value)} {oc4 kV4 dc4 pm4 cd4 ct4 : Value}
    {od5 an5 : Option Addr} {sl5 : Array (Option Value)} {oc5 kV5 dc5 pm5 cd5 ct5 : Value}
    {od6 an6 : Option Addr} {sl6 : Array (Option Value)} {oc6 kV6 dc6 pm6 cd6 ct6 : Value}
    {od7 an7 : Option Addr} {sl7 : Array (Option Value)} {oc7 kV7 dc7 pm7 cd7 ct7 : Value}
    {od8 an8 : Option Addr} {sl8 : Array (Option Value)} {oc8 kV8 dc8 pm8 cd8 ct8 : Value}
    {od9 an9 : Option Addr} {sl9 : Array (Option Value)} {oc9 kV9 dc9 pm9 cd9 ct9 : Value}
    {od10 an10 : Option Addr} {sl10 : Array (Option Value)} {oc10 kV10 dc10 pm10 cd10 ct10 : Value}
    {od11 an11 : Option Addr} {sl11 : Array (Option Value)} {oc11 kV11 dc11 pm11 cd11 ct11 : Value}
    {od12 an12 : Option Addr} {sl12 : Array (Option Value)} {oc12 kV12 dc12 pm12 cd12 ct12 : Value}
    {od13 an13 : Option Addr} {sl13 : Array (Option Value)} {oc13 kV13 dc13 pm13 cd13 ct13 : Value}
    {od14 an14 : Option Addr} {sl14 : Array (Option Value)} {oc14 kV14 dc14 pm14 cd14 ct14 : Value}
    {od15 an15 : Option Addr} {sl15 : Array (Option Value)} {oc15 kV15 dc15 pm15 cd15 ct15 : Value}
    {od16 an16 : Option Addr} {sl16 : Array (Option Value)} {oc16 kV16 dc16 pm16 cd16 ct16 : Value}
    {od17 an17 : Option Addr} {sl17 : Array (Option Value)} {oc17 kV17 dc17 pm17 cd17 ct17 : Value}
    {od18 an18 : Option Addr} {sl18 : Array (Option Value)} {oc18 kV18 dc18 pm18 cd18 ct18 : Value}
    {od19 an19 : Option Addr} {sl19 : Array (Option Value)} {oc19 kV19 dc19 pm19 cd19 ct19 : Value}
    {od20 an20 : Option Addr} {sl20 : Array (Option Value)} {oc20 kV20 dc20 pm20 cd20 ct20 : Value}
    {od21 an21 : Option Addr} {sl21 : Array (Option Value)} {oc21 kV21 dc21 pm21 cd21 ct21 : Value}
    {od22 an22 : Option Addr} {sl22 : Array (Option Value)} {oc22 kV22 dc22 pm22 cd22 ct22 : Value}
    {u_BEGIN : Value}
    {u_FEED : Value}
    {u_TOP : Value}
    {u_MARK : Addr} {kob_MARK : Obj} {kits_MARK : Array Value} {kn_MARK : Nat}
    {u_MOST_ENTRIES : Value}
    {u_MOST_SIGNS : Value}
    {u_NAME_SIGNS : Value}
    {u_NAME_BYTES : Addr} {kob_NAME_BYTES : Obj} {kits_NAME_BYTES : Array Value} {kn_NAME_BYTES : Nat}
    {u_MOST_NUMBER : Value}
    (a0 : PySem.W.nsIn K mainGlobals "crc_on" = some (some (.ref f0)))
    (l0 : K.lookup f0 = some ⟨oc0, od0, .func (PySem.W.fnOf "crc_on" "crc_on" (defArgs s_crc_on) (defBody s_crc_on) (defScope s_crc_on) .none kV0 dc0 pm0 an0 cd0 ct0), sl0⟩)
    (c0 : PySem.W.codeIn K cd0 "crc_on" = true) (k0 : PySem.W.keepIn K (.ref f0) = true)
    (a1 : PySem.W.nsIn K mainGlobals "crc" = some (some (.ref f1)))
    (l1 : K.lookup f1 = some ⟨oc1, od1, .func (PySem.W.fnOf "crc" "crc" (defArgs s_crc) (defBody s_crc) (defScope s_crc) .none kV1 dc1 pm1 an1 cd1 ct1), sl1⟩)
    (c1 : PySem.W.codeIn K cd1 "crc" = true) (k1 : PySem.W.keepIn K (.ref f1) = true)
    (a2 : PySem.W.nsIn K mainGlobals "crc_row" = some (some (.ref f2)))
    (l2 : K.lookup f2 = some ⟨oc2, od2, .func (PySem.W.fnOf "crc_row" "crc_row" (defArgs s_crc_row) (defBody s_crc_row) (defScope s_crc_row) .none kV2 dc2 pm2 an2 cd2 ct2), sl2⟩)
    (c2 : PySem.W.codeIn K cd2 "crc_row" = true) (k2 : PySem.W.keepIn K (.ref f2) = true)
    (a3 : PySem.W.findIn K (.ref C_Cursor) "__init__" = some (some (.ref f3)))
    (i3 : PySem.W.isFn K (.ref f3) = true)
    (l3 : K.lookup f3 = some ⟨oc3, od3, .func (PySem.W.fnOf "__init__" "Cursor.__init__" (defArgs s_Cursor_init) (defBody s_Cursor_init) (defScope s_Cursor_init) .none kV3 dc3 pm3 an3 cd3 ct3), sl3⟩)
    (c3 : PySem.W.codeIn K cd3 "Cursor.__init__" = true) (k3 : PySem.W.keepIn K (.ref f3) = true)
    (a4 : PySem.W.findIn K (.ref C_Cursor) "number" = some (some (.ref f4)))
    (i4 : PySem.W.isFn K (.ref f4) = true)
    (l4 : K.lookup f4 = some ⟨oc4, od4, .func (PySem.W.fnOf "number" "Cursor.number" (defArgs s_Cursor_number) (defBody s_Cursor_number) (defScope s_Cursor_number) .none kV4 dc4 pm4 an4 cd4 ct4), sl4⟩)
    (c4 : PySem.W.codeIn K cd4 "Cursor.number" = true) (k4 : PySem.W.keepIn K (.ref f4) = true)
    (a5 : PySem.W.nsIn K mainGlobals "read_name" = some (some (.ref f5)))
    (l5 : K.lookup f5 = some ⟨oc5, od5, .func (PySem.W.fnOf "read_name" "read_name" (defArgs s_read_name) (defBody s_read_name) (defScope s_read_name) .none kV5 dc5 pm5 an5 cd5 ct5), sl5⟩)
    (c5 : PySem.W.codeIn K cd5 "read_name" = true) (k5 : PySem.W.keepIn K (.ref f5) = true)
    (a6 : PySem.W.nsIn K mainGlobals "read_entry" = some (some (.ref f6)))
    (l6 : K.lookup f6 = some ⟨oc6, od6, .func (PySem.W.fnOf "read_entry" "read_entry" (defArgs s_read_entry) (defBody s_read_entry) (defScope s_read_entry) .none kV6 dc6 pm6 an6 cd6 ct6), sl6⟩)
    (c6 : PySem.W.codeIn K cd6 "read_entry" = true) (k6 : PySem.W.keepIn K (.ref f6) = true)
    (a7 : PySem.W.nsIn K mainGlobals "may_follow" = some (some (.ref f7)))
    (l7 : K.lookup f7 = some ⟨oc7, od7, .func (PySem.W.fnOf "may_follow" "may_follow" (defArgs s_may_follow) (defBody s_may_follow) (defScope s_may_follow) .none kV7 dc7 pm7 an7 cd7 ct7), sl7⟩)
    (c7 : PySem.W.codeIn K cd7 "may_follow" = true) (k7 : PySem.W.keepIn K (.ref f7) = true)
    (a8 : PySem.W.nsIn K mainGlobals "book_at" = some (some (.ref f8)))
    (l8 : K.lookup f8 = some ⟨oc8, od8, .func (PySem.W.fnOf "book_at" "book_at" (defArgs s_book_at) (defBody s_book_at) (defScope s_book_at) .none kV8 dc8 pm8 an8 cd8 ct8), sl8⟩)
    (c8 : PySem.W.codeIn K cd8 "book_at" = true) (k8 : PySem.W.keepIn K (.ref f8) = true)
    (a9 : PySem.W.nsIn K mainGlobals "_law_draw" = some (some (.ref f9)))
    (l9 : K.lookup f9 = some ⟨oc9, od9, .func (PySem.W.fnOf "_law_draw" "_law_draw" (defArgs s_l_draw) (defBody s_l_draw) (defScope s_l_draw) .none kV9 dc9 pm9 an9 cd9 ct9), sl9⟩)
    (c9 : PySem.W.codeIn K cd9 "_law_draw" = true) (k9 : PySem.W.keepIn K (.ref f9) = true)
    (a10 : PySem.W.nsIn K mainGlobals "_law_next" = some (some (.ref f10)))
    (l10 : K.lookup f10 = some ⟨oc10, od10, .func (PySem.W.fnOf "_law_next" "_law_next" (defArgs s_l_next) (defBody s_l_next) (defScope s_l_next) .none kV10 dc10 pm10 an10 cd10 ct10), sl10⟩)
    (c10 : PySem.W.codeIn K cd10 "_law_next" = true) (k10 : PySem.W.keepIn K (.ref f10) = true)
    (a11 : PySem.W.nsIn K mainGlobals "_law_sum" = some (some (.ref f11)))
    (l11 : K.lookup f11 = some ⟨oc11, od11, .func (PySem.W.fnOf "_law_sum" "_law_sum" (defArgs s_l_sum) (defBody s_l_sum) (defScope s_l_sum) .none kV11 dc11 pm11 an11 cd11 ct11), sl11⟩)
    (c11 : PySem.W.codeIn K cd11 "_law_sum" = true) (k11 : PySem.W.keepIn K (.ref f11) = true)
    (a12 : PySem.W.nsIn K mainGlobals "_law_name" = some (some (.ref f12)))
    (l12 : K.lookup f12 = some ⟨oc12, od12, .func (PySem.W.fnOf "_law_name" "_law_name" (defArgs s_l_name) (defBody s_l_name) (defScope s_l_name) .none kV12 dc12 pm12 an12 cd12 ct12), sl12⟩)
    (c12 : PySem.W.codeIn K cd12 "_law_name" = true) (k12 : PySem.W.keepIn K (.ref f12) = true)
    (a13 : PySem.W.nsIn K mainGlobals "_law_name_bytes" = some (some (.ref f13)))
    (l13 : K.lookup f13 = some ⟨oc13, od13, .func (PySem.W.fnOf "_law_name_bytes" "_law_name_bytes" (defArgs s_l_name_bytes) (defBody s_l_name_bytes) (defScope s_l_name_bytes) .none kV13 dc13 pm13 an13 cd13 ct13), sl13⟩)
    (c13 : PySem.W.codeIn K cd13 "_law_name_bytes" = true) (k13 : PySem.W.keepIn K (.ref f13) = true)
    (a14 : PySem.W.nsIn K mainGlobals "_law_entry" = some (some (.ref f14)))
    (l14 : K.lookup f14 = some ⟨oc14, od14, .func (PySem.W.fnOf "_law_entry" "_law_entry" (defArgs s_l_entry) (defBody s_l_entry) (defScope s_l_entry) .none kV14 dc14 pm14 an14 cd14 ct14), sl14⟩)
    (c14 : PySem.W.codeIn K cd14 "_law_entry" = true) (k14 : PySem.W.keepIn K (.ref f14) = true)
    (a15 : PySem.W.nsIn K mainGlobals "_law_places" = some (some (.ref f15)))
    (l15 : K.lookup f15 = some ⟨oc15, od15, .func (PySem.W.fnOf "_law_places" "_law_places" (defArgs s_l_places) (defBody s_l_places) (defScope s_l_places) .none kV15 dc15 pm15 an15 cd15 ct15), sl15⟩)
    (c15 : PySem.W.codeIn K cd15 "_law_places" = true) (k15 : PySem.W.keepIn K (.ref f15) = true)
    (a16 : PySem.W.nsIn K mainGlobals "_law_entries" = some (some (.ref f16)))
    (l16 : K.lookup f16 = some ⟨oc16, od16, .func (PySem.W.fnOf "_law_entries" "_law_entries" (defArgs s_l_entries) (defBody s_l_entries) (defScope s_l_entries) .none kV16 dc16 pm16 an16 cd16 ct16), sl16⟩)
    (c16 : PySem.W.codeIn K cd16 "_law_entries" = true) (k16 : PySem.W.keepIn K (.ref f16) = true)
    (a17 : PySem.W.nsIn K mainGlobals "_law_spoilt_rows" = some (some (.ref f17)))
    (l17 : K.lookup f17 = some ⟨oc17, od17, .func (PySem.W.fnOf "_law_spoilt_rows" "_law_spoilt_rows" (defArgs s_l_spoilt_rows) (defBody s_l_spoilt_rows) (defScope s_l_spoilt_rows) .none kV17 dc17 pm17 an17 cd17 ct17), sl17⟩)
    (c17 : PySem.W.codeIn K cd17 "_law_spoilt_rows" = true) (k17 : PySem.W.keepIn K (.ref f17) = true)
    (a18 : PySem.W.nsIn K mainGlobals "_law_spoilt" = some (some (.ref f18)))
    (l18 : K.lookup f18 = some ⟨oc18, od18, .func (PySem.W.fnOf "_law_spoilt" "_law_spoilt" (defArgs s_l_spoilt) (defBody s_l_spoilt) (defScope s_l_spoilt) .none kV18 dc18 pm18 an18 cd18 ct18), sl18⟩)
    (c18 : PySem.W.codeIn K cd18 "_law_spoilt" = true) (k18 : PySem.W.keepIn K (.ref f18) = true)
    (a19 : PySem.W.nsIn K mainGlobals "_law_name_at" = some (some (.ref f19)))
    (l19 : K.lookup f19 = some ⟨oc19, od19, .func (PySem.W.fnOf "_law_name_at" "_law_name_at" (defArgs s_l_name_at) (defBody s_l_name_at) (defScope s_l_name_at) .none kV19 dc19 pm19 an19 cd19 ct19), sl19⟩)
    (c19 : PySem.W.codeIn K cd19 "_law_name_at" = true) (k19 : PySem.W.keepIn K (.ref f19) = true)
    (a20 : PySem.W.nsIn K mainGlobals "_law_entry_at" = some (some (.ref f20)))
    (l20 : K.lookup f20 = some ⟨oc20, od20, .func (PySem.W.fnOf "_law_entry_at" "_law_entry_at" (defArgs s_l_entry_at) (defBody s_l_entry_at) (defScope s_l_entry_at) .none kV20 dc20 pm20 an20 cd20 ct20), sl20⟩)
    (c20 : PySem.W.codeIn K cd20 "_law_entry_at" = true) (k20 : PySem.W.keepIn K (.ref f20) = true)
    (a21 : PySem.W.nsIn K mainGlobals "_law_due" = some (some (.ref f21)))
    (l21 : K.lookup f21 = some ⟨oc21, od21, .func (PySem.W.fnOf "_law_due" "_law_due" (defArgs s_l_due) (defBody s_l_due) (defScope s_l_due) .none kV21 dc21 pm21 an21 cd21 ct21), sl21⟩)
    (c21 : PySem.W.codeIn K cd21 "_law_due" = true) (k21 : PySem.W.keepIn K (.ref f21) = true)
    (a22 : PySem.W.nsIn K mainGlobals "law" = some (some (.ref f22)))
    (l22 : K.lookup f22 = some ⟨oc22, od22, .func (PySem.W.fnOf "law" "law" (defArgs s_law) (defBody s_law) (defScope s_law) .none kV22 dc22 pm22 an22 cd22 ct22), sl22⟩)
    (c22 : PySem.W.codeIn K cd22 "law" = true) (k22 : PySem.W.keepIn K (.ref f22) = true)
    (qC_Cursor : PySem.W.nsIn K mainGlobals "Cursor" = some (some (.ref C_Cursor)))
    (pgC_Cursor : PySem.W.plainGet K C_Cursor Str.empty = true) (hdC_Cursor : PySem.W.hasDictIn K C_Cursor = true) (poC_Cursor : PySem.W.plainOver K C_Cursor = true) (saC_Cursor : PySem.W.findIn K (.ref C_Cursor) "__setattr__" = some (some (.builtin "object.__setattr__"))) (mkC_Cursor : PySem.W.makesIn K C_Cursor = true) (kcC_Cursor : PySem.W.keepIn K (.ref C_Cursor) = true)
    (nC_Cursor_source : PySem.W.findIn K (.ref C_Cursor) "source" = some none)
    (nC_Cursor_spot : PySem.W.findIn K (.ref C_Cursor) "spot" = some none)
    (nC_Cursor_short : PySem.W.findIn K (.ref C_Cursor) "short" = some none)
    (z_all : PySem.W.nsIn K mainGlobals "all" = some none)
    (z_int : PySem.W.nsIn K mainGlobals "int" = some none)
    (z_len : PySem.W.nsIn K mainGlobals "len" = some none)
    (z_list : PySem.W.nsIn K mainGlobals "list" = some none)
    (z_max : PySem.W.nsIn K mainGlobals "max" = some none)
    (z_min : PySem.W.nsIn K mainGlobals "min" = some none)
    (z_range : PySem.W.nsIn K mainGlobals "range" = some none)
    (z_str : PySem.W.nsIn K mainGlobals "str" = some none)
    (m_BEGIN : PySem.W.nsIn K mainGlobals "BEGIN" = some (some u_BEGIN)) (r_BEGIN : RelV (.int 65535) u_BEGIN)
    (m_FEED : PySem.W.nsIn K mainGlobals "FEED" = some (some u_FEED)) (r_FEED : RelV (.int 4129) u_FEED)
    (m_TOP : PySem.W.nsIn K mainGlobals "TOP" = some (some u_TOP)) (r_TOP : RelV (.int 32768) u_TOP)
    (m_MARK : PySem.W.nsIn K mainGlobals "MARK" = some (some (.ref u_MARK))) (kl_MARK : K.lookup u_MARK = some kob_MARK) (ky_MARK : kob_MARK.cls = .type "list") (kd_MARK : kob_MARK.dict = none) (ke_MARK : kob_MARK.data = .seq kits_MARK kn_MARK) (kz_MARK : kits_MARK.size ≤ sizeLine) (kv_MARK : Vals (List.map V.int [165, 91]) kits_MARK.toList)
    (m_MOST_ENTRIES : PySem.W.nsIn K mainGlobals "MOST_ENTRIES" = some (some u_MOST_ENTRIES)) (r_MOST_ENTRIES : RelV (.int 30) u_MOST_ENTRIES)
    (m_MOST_SIGNS : PySem.W.nsIn K mainGlobals "MOST_SIGNS" = some (some u_MOST_SIGNS)) (r_MOST_SIGNS : RelV (.int 12) u_MOST_SIGNS)
    (m_NAME_SIGNS : PySem.W.nsIn K mainGlobals "NAME_SIGNS" = some (some u_NAME_SIGNS)) (r_NAME_SIGNS : RelV (.str (PySem.Str.ofString "-.0123456789abcdefghijklmnopqrstuvwxyz")) u_NAME_SIGNS)
    (m_NAME_BYTES : PySem.W.nsIn K mainGlobals "NAME_BYTES" = some (some (.ref u_NAME_BYTES))) (kl_NAME_BYTES : K.lookup u_NAME_BYTES = some kob_NAME_BYTES) (ky_NAME_BYTES : kob_NAME_BYTES.cls = .type "tuple") (kd_NAME_BYTES : kob_NAME_BYTES.dict = none) (ke_NAME_BYTES : kob_NAME_BYTES.data = .seq kits_NAME_BYTES kn_NAME_BYTES) (kz_NAME_BYTES : kits_NAME_BYTES.size ≤ sizeLine) (kv_NAME_BYTES : Vals (List.map V.int [45, 46, 48, 49, 50, 51, 52, 53, 54, 55, 56, 57, 97, 98, 99, 100, 101, 102, 103, 104, 105, 106, 107, 108, 109, 110, 111, 112, 113, 114, 115, 116, 117, 118, 119, 120, 121, 122]) kits_NAME_BYTES.toList)
    (m_MOST_NUMBER : PySem.W.nsIn K mainGlobals "MOST_NUMBER" = some (some u_MOST_NUMBER)) (r_MOST_NUMBER : RelV (.int 254) u_MOST_NUMBER) :
    ∃ fd : FuncData, (∀ (s : Shared) (v : Value), BindsTo s fd ⟨[v], []⟩ [("_law_script", v)]) ∧ ∀ base : Heap, K.In base → base.Ns mainGlobals mg → FnOk l.prog w K mg base CX0 5 fa fd ["_law_script"] (spLaw K) := by
  have e := hfa.symm.trans (PySem.W.mg_of X G a22)
  cases e
  have F0 := fun_mk (st := s_crc_on) l0 c0 k0
  have b0 := F0.binds (ps := ["begun", "row"]) fun _ _ _ _ _ _ us hl => match us, hl with | [_, _], _ => rfl
  have F1 := fun_mk (st := s_crc) l1 c1 k1
  have b1 := F1.binds (ps := ["row"]) fun _ _ _ _ _ _ us hl => match us, hl with | [_], _ => rfl
  have F2 := fun_mk (st := s_crc_row) l2 c2 k2
  have b2 := F2.binds (ps := ["row"]) fun _ _ _ _ _ _ us hl => match us, hl with | [_], _ => rfl
  have F3 := fun_mk (st := s_Cursor_init) l3 c3 k3
  have b3 := F3.binds (ps := ["self", "row", "place"]) fun _ _ _ _ _ _ us hl => match us, hl with | [_, _, _], _ => rfl
  have F4 := fun_mk (st := s_Cursor_number) l4 c4 k4
  have b4 := F4.binds (ps := ["self", "many"]) fun _ _ _ _ _ _ us hl => match us, hl with | [_, _], _ => rfl
  have F5 := fun_mk (st := s_read_name) l5 c5 k5
  have b5 := F5.binds (ps := ["cursor"]) fun _ _ _ _ _ _ us hl => match us, hl with | [_], _ => rfl
  have F6 := fun_mk (st := s_read_entry) l6 c6 k6
  have b6 := F6.binds (ps := ["cursor"]) fun _ _ _ _ _ _ us hl => match us, hl with | [_], _ => rfl
  have F7 := fun_mk (st := s_may_follow) l7 c7 k7
  have b7 := F7.binds (ps := ["entry", "entries"]) fun _ _ _ _ _ _ us hl => match us, hl with | [_, _], _ => rfl
  have F8 := fun_mk (st := s_book_at) l8 c8 k8
  have b8 := F8.binds (ps := ["row", "place"]) fun _ _ _ _ _ _ us hl => match us, hl with | [_, _], _ => rfl
  have F9 := fun_mk (st := s_l_draw) l9 c9 k9
  have b9 := F9.binds (ps := ["_law_cell"]) fun _ _ _ _ _ _ us hl => match us, hl with | [_], _ => rfl
  have F10 := fun_mk (st := s_l_next) l10 c10 k10
  have b10 := F10.binds (ps := ["_law_draw_here", "_law_size"]) fun _ _ _ _ _ _ us hl => match us, hl with | [_, _], _ => rfl
  have F11 := fun_mk (st := s_l_sum) l11 c11 k11
  have b11 := F11.binds (ps := ["_law_row"]) fun _ _ _ _ _ _ us hl => match us, hl with | [_], _ => rfl
  have F12 := fun_mk (st := s_l_name) l12 c12 k12
  have b12 := F12.binds (ps := ["_law_draw_here"]) fun _ _ _ _ _ _ us hl => match us, hl with | [_], _ => rfl
  have F13 := fun_mk (st := s_l_name_bytes) l13 c13 k13
  have b13 := F13.binds (ps := ["_law_name_here"]) fun _ _ _ _ _ _ us hl => match us, hl with | [_], _ => rfl
  have F14 := fun_mk (st := s_l_entry) l14 c14 k14
  have b14 := F14.binds (ps := ["_law_entry_here"]) fun _ _ _ _ _ _ us hl => match us, hl with | [_], _ => rfl
  have F15 := fun_mk (st := s_l_places) l15 c15 k15
  have b15 := F15.binds (ps := ["_law_draw_here", "_law_most"]) fun _ _ _ _ _ _ us hl => match us, hl with | [_, _], _ => rfl
  have F16 := fun_mk (st := s_l_entries) l16 c16 k16
  have b16 := F16.binds (ps := ["_law_draw_here", "_law_left"]) fun _ _ _ _ _ _ us hl => match us, hl with | [_, _], _ => rfl
  have F17 := fun_mk (st := s_l_spoilt_rows) l17 c17 k17
  have b17 := F17.binds (ps := ["_law_draw_here", "_law_entries_here", "_law_rows"]) fun _ _ _ _ _ _ us hl => match us, hl with | [_, _, _], _ => rfl
  have F18 := fun_mk (st := s_l_spoilt) l18 c18 k18
  have b18 := F18.binds (ps := ["_law_draw_here", "_law_entries_here"]) fun _ _ _ _ _ _ us hl => match us, hl with | [_, _], _ => rfl
  have F19 := fun_mk (st := s_l_name_at) l19 c19 k19
  have b19 := F19.binds (ps := ["_law_row", "_law_at"]) fun _ _ _ _ _ _ us hl => match us, hl with | [_, _], _ => rfl
  have F20 := fun_mk (st := s_l_entry_at) l20 c20 k20
  have b20 := F20.binds (ps := ["_law_row", "_law_at"]) fun _ _ _ _ _ _ us hl => match us, hl with | [_, _], _ => rfl
  have F21 := fun_mk (st := s_l_due) l21 c21 k21
  have b21 := F21.binds (ps := ["_law_row", "_law_place"]) fun _ _ _ _ _ _ us hl => match us, hl with | [_, _], _ => rfl
  have F22 := fun_mk (st := s_law) l22 c22 k22
  have b22 := F22.binds (ps := ["_law_script"]) fun _ _ _ _ _ _ us hl => match us, hl with | [_], _ => rfl
  exact ⟨_, fun s v => .of_eq rfl, fun base _ _ => hlaw (K := K) (mg := mg) { a_crc_on := f0, d_crc_on := _, F_crc_on := F0, b_crc_on := b0, g_crc_on := PySem.W.mg_of X G a0, a_crc := f1, d_crc := _, F_crc := F1, b_crc := b1, g_crc := PySem.W.mg_of X G a1, a_crc_row := f2, d_crc_row := _, F_crc_row := F2, b_crc_row := b2, g_crc_row := PySem.W.mg_of X G a2, a_Cursor_init := f3, d_Cursor_init := _, F_Cursor_init := F3, b_Cursor_init := b3, a_Cursor_number := f4, d_Cursor_number := _, F_Cursor_number := F4, b_Cursor_number := b4, a_read_name := f5, d_read_name := _, F_read_name := F5, b_read_name := b5, g_read_name := PySem.W.mg_of X G a5, a_read_entry := f6, d_read_entry := _, F_read_entry := F6, b_read_entry := b6, g_read_entry := PySem.W.mg_of X G a6, a_may_follow := f7, d_may_follow := _, F_may_follow := F7, b_may_follow := b7, g_may_follow := PySem.W.mg_of X G a7, a_book_at := f8, d_book_at := _, F_book_at := F8, b_book_at := b8, g_book_at := PySem.W.mg_of X G a8, a_l_draw := f9, d_l_draw := _, F_l_draw := F9, b_l_draw := b9, g_l_draw := PySem.W.mg_of X G a9, a_l_next := f10, d_l_next := _, F_l_next := F10, b_l_next := b10, g_l_next := PySem.W.mg_of X G a10, a_l_sum := f11, d_l_sum := _, F_l_sum := F11, b_l_sum := b11, g_l_sum := PySem.W.mg_of X G a11, a_l_name := f12, d_l_name := _, F_l_name := F12, b_l_name := b12, g_l_name := PySem.W.mg_of X G a12, a_l_name_bytes := f13, d_l_name_bytes := _, F_l_name_bytes := F13, b_l_name_bytes := b13, g_l_name_bytes := PySem.W.mg_of X G a13, a_l_entry := f14, d_l_entry := _, F_l_entry := F14, b_l_entry := b14, g_l_entry := PySem.W.mg_of X G a14, a_l_places := f15, d_l_places := _, F_l_places := F15, b_l_places := b15, g_l_places := PySem.W.mg_of X G a15, a_l_entries := f16, d_l_entries := _, F_l_entries := F16, b_l_entries := b16, g_l_entries := PySem.W.mg_of X G a16, a_l_spoilt_rows := f17, d_l_spoilt_rows := _, F_l_spoilt_rows := F17, b_l_spoilt_rows := b17, g_l_spoilt_rows := PySem.W.mg_of X G a17, a_l_spoilt := f18, d_l_spoilt := _, F_l_spoilt := F18, b_l_spoilt := b18, g_l_spoilt := PySem.W.mg_of X G a18, a_l_name_at := f19, d_l_name_at := _, F_l_name_at := F19, b_l_name_at := b19, g_l_name_at := PySem.W.mg_of X G a19, a_l_entry_at := f20, d_l_entry_at := _, F_l_entry_at := F20, b_l_entry_at := b20, g_l_entry_at := PySem.W.mg_of X G a20, a_l_due := f21, d_l_due := _, F_l_due := F21, b_l_due := b21, g_l_due := PySem.W.mg_of X G a21, a_law := fa, d_law := _, F_law := F22, b_law := b22, g_law := PySem.W.mg_of X G a22, C_Cursor := C_Cursor, g_Cursor := PySem.W.mg_of X G qC_Cursor, cl_Cursor := ⟨pgC_Cursor, hdC_Cursor, poC_Cursor, saC_Cursor⟩, n_Cursor_source := nC_Cursor_source, n_Cursor_spot := nC_Cursor_spot, n_Cursor_short := nC_Cursor_short, K_Cursor := ⟨mkC_Cursor, a3, i3, kcC_Cursor⟩, M_Cursor_number := ⟨a4, i4, k4⟩, z_all := PySem.W.mg_none_of X G z_all, z_int := PySem.W.mg_none_of X G z_int, z_len := PySem.W.mg_none_of X G z_len, z_list := PySem.W.mg_none_of X G z_list, z_max := PySem.W.mg_none_of X G z_max, z_min := PySem.W.mg_none_of X G z_min, z_range := PySem.W.mg_none_of X G z_range, z_str := PySem.W.mg_none_of X G z_str, u_BEGIN := u_BEGIN, m_BEGIN := PySem.W.mg_of X G m_BEGIN, r_BEGIN := r_BEGIN, u_FEED := u_FEED, m_FEED := PySem.W.mg_of X G m_FEED, r_FEED := r_FEED, u_TOP := u_TOP, m_TOP := PySem.W.mg_of X G m_TOP, r_TOP := r_TOP, u_MARK := u_MARK, m_MARK := PySem.W.mg_of X G m_MARK, r_MARK := ⟨_, _, _, kl_MARK, ky_MARK, kd_MARK, ke_MARK, kz_MARK, kv_MARK⟩, u_MOST_ENTRIES := u_MOST_ENTRIES, m_MOST_ENTRIES := PySem.W.mg_of X G m_MOST_ENTRIES, r_MOST_ENTRIES := r_MOST_ENTRIES, u_MOST_SIGNS := u_MOST_SIGNS, m_MOST_SIGNS := PySem.W.mg_of X G m_MOST_SIGNS, r_MOST_SIGNS := r_MOST_SIGNS, u_NAME_SIGNS := u_NAME_SIGNS, m_NAME_SIGNS := PySem.W.mg_of X G m_NAME_SIGNS, r_NAME_SIGNS := r_NAME_SIGNS, u_NAME_BYTES := u_NAME_BYTES, m_NAME_BYTES := PySem.W.mg_of X G m_NAME_BYTES, r_NAME_BYTES := ⟨_, _, _, kl_NAME_BYTES, ky_NAME_BYTES, ke_NAME_BYTES, kz_NAME_BYTES, kv_NAME_BYTES⟩, dn_NAME_BYTES := ⟨_, kl_NAME_BYTES, ky_NAME_BYTES, kd_NAME_BYTES⟩, u_MOST_NUMBER := u_MOST_NUMBER, m_MOST_NUMBER := PySem.W.mg_of X G m_MOST_NUMBER, r_MOST_NUMBER := r_MOST_NUMBER }⟩
theorem walk {l : PySem.W.OpenLaw} {q : Program} {loose : List Str} {XP : (Str → Option Value) → Heap → Prop} {YP : World → Heap → Prop} {d : DefRec} {K : Params → PySem.W.Frag} (hn : l.most = some 63) (hdf : d.params.defaults = [])
    (hY : ∀ (w : World) (h : Heap), YP w h → (K w.params).In h)
    (F : ∀ (w : World) (mg : Str → Option Value) (fa : Addr) (h : Heap), (K w.params).In h → h.Ns mainGlobals mg → mg d.name = some (.ref fa) →
      ∃ fd : FuncData, (∀ (s : Shared) (u : Value), BindsTo s fd ⟨[u], []⟩ [("_law_script", u)]) ∧ ∀ base : Heap, (K w.params).In base → base.Ns mainGlobals mg → FnOk l.prog w (K w.params) mg base CX0 5 fa fd ["_law_script"] (spLaw (K w.params))) :
    PySem.W.WalkO q loose XP YP l.row.toRowW d [] (fun f vs => PySem.call f vs) :=
  L2.walk_of (n := 63) (k := 5) (x := "_law_script") (CX := fun _ => CX0) (sp := fun w => spLaw (K w.params)) hn (by decide) hdf ⟨rfl, by decide, by decide⟩ hY F (fun _ _ a ns hl hO hS => ⟨a, ns, rfl, hS, hl, Z.only_nd hO, fun _ => rfl⟩) fun _ _ _ _ _ z => z
def HL : Prop := ∀ {P : Program} {w : World} {K : PySem.W.Frag} {mg : Str → Option Value} {base : Heap} (T : Tx K mg), FnOk P w K mg base CX0 5 T.a_law T.d_law ["_law_script"] (spLaw K)
theorem both {T Q : Prop} (hc : T) (main : Q) : Q := main
end K42
open PySem PySem.W PyProof.Rows in
set_option maxRecDepth 100000 in
set_option maxHeartbeats 0 in
theorem K42.early (hlaw : K42.HL) : PySem.Challenge.rw_tornshelf_k42_books_at_places.Holds := by
  w_on; o_law
  apply K42.both
  case main =>
    k_head; (case hw => w_witness2)
  k_fill
  refine K42.walk (l := PySem.Challenge.rw_tornshelf_k42_books_at_places) rfl rfl (fun w h Y => PySem.W.kIn_of Y) ?F
  case F =>
    intro w mg fa h KX G hmg
    refine' K42.all_mk @hlaw KX G hmg ?a0 ?l0 ?c0 ?k0 ?a1 ?l1 ?c1 ?k1 ?a2 ?l2 ?c2 ?k2 ?a3 ?i3 ?l3 ?c3 ?k3 ?a4 ?i4 ?l4 ?c4 ?k4 ?a5 ?l5 ?c5 ?k5 ?a6 ?l6 ?c6 ?k6 ?a7 ?l7 ?c7 ?k7 ?a8 ?l8 ?c8 ?k8 ?a9 ?l9 ?c9 ?k9 ?a10 ?l10 ?c10 ?k10 ?a11 ?l11 ?c11 ?k11 ?a12 ?l12 ?c12 ?k12 ?a13 ?l13 ?c13 ?k13 ?a14 ?l14 ?c14 ?k14 ?a15 ?l15 ?c15 ?k15 ?a16 ?l16 ?c16 ?k16 ?a17 ?l17 ?c17 ?k17 ?a18 ?l18 ?c18 ?k18 ?a19 ?l19 ?c19 ?k19 ?a20 ?l20 ?c20 ?k20 ?a21 ?l21 ?c21 ?k21 ?a22 ?l22 ?c22 ?k22 ?qC_Cursor ?pgC_Cursor ?hdC_Cursor ?poC_Cursor ?saC_Cursor ?mkC_Cursor ?kcC_Cursor ?nC_Cursor_source ?nC_Cursor_spot ?nC_Cursor_short ?z_all ?z_int ?z_len ?z_list ?z_max ?z_min ?z_range ?z_str ?m_BEGIN ?r_BEGIN ?m_FEED ?r_FEED ?m_TOP ?r_TOP ?m_MARK ?kl_MARK ?ky_MARK ?kd_MARK ?ke_MARK ?kz_MARK ?kv_MARK ?m_MOST_ENTRIES ?r_MOST_ENTRIES ?m_MOST_SIGNS ?r_MOST_SIGNS ?m_NAME_SIGNS ?r_NAME_SIGNS ?m_NAME_BYTES ?kl_NAME_BYTES ?ky_NAME_BYTES ?kd_NAME_BYTES ?ke_NAME_BYTES ?kz_NAME_BYTES ?kv_NAME_BYTES ?m_MOST_NUMBER ?r_MOST_NUMBER
    (case qC_Cursor => k_is)
    (case a0 => k_is)
    (case l0 => k_is)
    (case c0 => k_is)
    (case k0 => k_is)
    (case a1 => k_is)
    (case l1 => k_is)
    (case c1 => k_is)
    (case k1 => k_is)
    (case a2 => k_is)
    (case l2 => k_is)
    (case c2 => k_is)
    (case k2 => k_is)
    (case a3 => k_is)
    (case i3 => k_is)
    (case l3 => k_is)
    (case c3 => k_is)
    (case k3 => k_is)
    (case a4 => k_is)
    (case i4 => k_is)
    (case l4 => k_is)
    (case c4 => k_is)
    (case k4 => k_is)
    (case a5 => k_is)
    (case l5 => k_is)
    (case c5 => k_is)
    (case k5 => k_is)
    (case a6 => k_is)
    (case l6 => k_is)
    (case c6 => k_is)
    (case k6 => k_is)
    (case a7 => k_is)
    (case l7 => k_is)
    (case c7 => k_is)
    (case k7 => k_is)
    (case a8 => k_is)
    (case l8 => k_is)
    (case c8 => k_is)
    (case k8 => k_is)
    (case a9 => k_is)
    (case l9 => k_is)
    (case c9 => k_is)
    (case k9 => k_is)
    (case a10 => k_is)
    (case l10 => k_is)
    (case c10 => k_is)
    (case k10 => k_is)
    (case a11 => k_is)
    (case l11 => k_is)
    (case c11 => k_is)
    (case k11 => k_is)
    (case a12 => k_is)
    (case l12 => k_is)
    (case c12 => k_is)
    (case k12 => k_is)
    (case a13 => k_is)
    (case l13 => k_is)
    (case c13 => k_is)
    (case k13 => k_is)
    (case a14 => k_is)
    (case l14 => k_is)
    (case c14 => k_is)
    (case k14 => k_is)
    (case a15 => k_is)
    (case l15 => k_is)
    (case c15 => k_is)
    (case k15 => k_is)
    (case a16 => k_is)
    (case l16 => k_is)
    (case c16 => k_is)
    (case k16 => k_is)
    (case a17 => k_is)
    (case l17 => k_is)
    (case c17 => k_is)
    (case k17 => k_is)
    (case a18 => k_is)
    (case l18 => k_is)
    (case c18 => k_is)
    (case k18 => k_is)
    (case a19 => k_is)
    (case l19 => k_is)
    (case c19 => k_is)
    (case k19 => k_is)
    (case a20 => k_is)
    (case l20 => k_is)
    (case c20 => k_is)
    (case k20 => k_is)
    (case a21 => k_is)
    (case l21 => k_is)
    (case c21 => k_is)
    (case k21 => k_is)
    (case a22 => k_is)
    (case l22 => k_is)
    (case c22 => k_is)
    (case k22 => k_is)
    (case pgC_Cursor => k_is)
    (case hdC_Cursor => k_is)
    (case poC_Cursor => k_is)
    (case saC_Cursor => k_is)
    (case mkC_Cursor => k_is)
    (case kcC_Cursor => k_is)
    (case nC_Cursor_source => k_is)
    (case nC_Cursor_spot => k_is)
    (case nC_Cursor_short => k_is)
    (case z_all => k_is)
    (case z_int => k_is)
    (case z_len => k_is)
    (case z_list => k_is)
    (case z_max => k_is)
    (case z_min => k_is)
    (case z_range => k_is)
    (case z_str => k_is)
    (case m_BEGIN => k_is)
    (case r_BEGIN => first | exact ⟨_, rfl⟩ | rfl)
    (case m_FEED => k_is)
    (case r_FEED => first | exact ⟨_, rfl⟩ | rfl)
    (case m_TOP => k_is)
    (case r_TOP => first | exact ⟨_, rfl⟩ | rfl)
    (case m_MARK => k_is)
    (case kl_MARK => k_is)
    (case ky_MARK => exact rfl)
    (case kd_MARK => exact rfl)
    (case ke_MARK => exact rfl)
    (case kz_MARK => decide +kernel)
    (case kv_MARK => repeat (first | exact .nil | refine .cons ⟨_, rfl⟩ ?_))
    (case m_MOST_ENTRIES => k_is)
    (case r_MOST_ENTRIES => first | exact ⟨_, rfl⟩ | rfl)
    (case m_MOST_SIGNS => k_is)
    (case r_MOST_SIGNS => first | exact ⟨_, rfl⟩ | rfl)
    (case m_NAME_SIGNS => k_is)
    (case r_NAME_SIGNS => first | exact ⟨_, rfl⟩ | rfl)
    (case m_NAME_BYTES => k_is)
    (case kl_NAME_BYTES => k_is)
    (case ky_NAME_BYTES => exact rfl)
    (case kd_NAME_BYTES => exact rfl)
    (case ke_NAME_BYTES => exact rfl)
    (case kz_NAME_BYTES => decide +kernel)
    (case kv_NAME_BYTES => repeat (first | exact .nil | refine .cons ⟨_, rfl⟩ ?_))
    (case m_MOST_NUMBER => k_is)
    (case r_MOST_NUMBER => first | exact ⟨_, rfl⟩ | rfl)
namespace K42
open PySem L2 Z Y
-- side questions
local macro_rules | `(tactic| walk_at "sd") => `(tactic| first
  | omega | assumption | (show (_ : Nat) ≤ 16777216; simp; done) | (show (_ : Nat) ≤ 16777216; simp; omega) | (show (_ : Nat) < 16777216; simp; done) | (show (_ : Nat) < 16777216; simp; omega) | decide | exact Or.inr ⟨by omega, by omega⟩ | exact Or.inl ⟨by omega, by omega⟩ | exact ⟨by omega, by omega⟩ | exact ⟨by omega, by omega, by omega⟩ | exact ⟨by omega, by omega, by omega, by omega⟩ | exact ⟨by omega, by omega, by decide⟩)
local macro_rules | `(tactic| walk_at "ds") => `(tactic| dsimp only [List.set, setC, wipeS, wipeE, Y.rest, kp, Cn.toD])
local macro_rules | `(tactic| walk_at "f0") => `(tactic| (refine Y.f_fn rfl ?_; simp only [List.map_cons, List.map_nil, List.length_cons, List.length_nil, List.replicate, Nat.reduceSub, Nat.reduceAdd, List.cons_append, List.nil_append]))
local macro_rules | `(tactic| walk_at "fx") => `(tactic| (refine Y.f_fnX rfl ?_; simp only [List.map_cons, List.map_nil, List.length_cons, List.length_nil, List.replicate, Nat.reduceSub, Nat.reduceAdd, List.cons_append, List.nil_append]))
local macro_rules | `(tactic| walk_at "f00") => `(tactic| (refine Y.f_fn0 rfl ?_; simp only [List.map_cons, List.map_nil, List.length_cons, List.length_nil, List.replicate, Nat.reduceSub, Nat.reduceAdd, List.cons_append, List.nil_append]))
-- one step of a mirror
local macro_rules | `(tactic| walk_at "w1") => `(tactic| first
  | with_reducible refine Y.w_seq ?_
  | with_reducible refine Y.w_asg ?_
  | ((with_reducible show Y.Wo _ _ (Y.mName _ _)); first | refine Y.w_nameF rfl ?_ | refine Y.w_nameO rfl ?_)
  | with_reducible refine Y.w_c ?_
  | with_reducible refine Y.w_op ?_
  | with_reducible refine Y.w_addI ?_
  | with_reducible refine Y.w_I0 ?_
  | ((with_reducible refine Y.w_I ?_ ?_); (focus (· walk_at "sd")))
  | ((with_reducible refine Y.w_mulI ?_ ?_); (focus (· walk_at "sd")))
  | with_reducible refine Y.w_eqI ?_
  | ((with_reducible show Y.Wo _ _ (Y.fEq _ (.val (.str _)) (.val (.str _)))); refine Y.w_eqS (by decide +kernel) (by decide +kernel) ?_)
  | ((with_reducible show Y.Wo _ _ (Y.fNe _ (.val (.str _)) (.val (.str _)))); refine Y.w_neS (by decide +kernel) (by decide +kernel) ?_)
  | with_reducible refine Y.w_neI ?_
  | (with_reducible refine Y.w_asgV ?_; walk_at "ds")
  | (with_reducible refine Y.w_asgN ?_; walk_at "ds")
  | ((with_reducible show Y.Ws _ _ (Y.asg _ (.slot _) _)); refine Y.w_asgI rfl ?_; walk_at "ds")
  | with_reducible refine Y.w_ret ?_
  | with_reducible refine Y.w_retV ?_
  | with_reducible refine Y.w_retN' ?_
  | ((with_reducible show Y.Ws _ _ (Y.ret (.slot _) _)); refine Y.w_retS rfl ?_; walk_at "ds")
  | with_reducible refine Y.w_retN ?_
  | with_reducible refine Y.w_ifS ?_
  | with_reducible refine Y.w_bl ?_
  | with_reducible refine Y.w_blB ?_
  | with_reducible refine Y.w_tru ?_
  | with_reducible refine Y.w_truB ?_
  | with_reducible refine Y.w_truI ?_
  | with_reducible refine Y.w_blV ?_
  | with_reducible refine Y.w_and ?_
  | with_reducible refine Y.w_or ?_
  | with_reducible refine Y.w_not ?_
  | with_reducible refine Y.w_andV ?_
  | with_reducible refine Y.w_orV ?_
  | with_reducible refine Y.w_notV ?_
  | with_reducible refine Y.w_ifE ?_
  | with_reducible refine Y.w_chain ?_
  | with_reducible refine Z.z_iT ?_
  | with_reducible refine Z.z_iF ?_
  | with_reducible refine Z.z_inT ?_
  | with_reducible refine Z.z_inF ?_
  | with_reducible refine Z.z_ifR ?_
  | with_reducible refine Z.z_ifnR ?_
  | ((with_reducible refine Z.z_ifY ?_ ?_); (focus (· omega)))
  | ((with_reducible refine Z.z_ifN ?_ ?_); (focus (· omega)))
  | ((with_reducible refine Z.z_ifnY ?_ ?_); (focus (· omega)))
  | ((with_reducible refine Z.z_ifnN ?_ ?_); (focus (· omega)))
  | ((with_reducible show if Y.D.isN _ = true then _ else _); first | refine Y.z_b1 rfl ?_ | refine Y.z_b0 rfl ?_)
  | ((with_reducible show if (!(Y.D.isN _)) = true then _ else _); first | refine Y.z_b1 rfl ?_ | refine Y.z_b0 rfl ?_)
  | with_reducible refine Y.w_aNil ?_
  | with_reducible refine Y.w_aCons ?_
  | with_reducible refine Y.w_vNil ?_
  | with_reducible refine Y.w_vCons ?_
  | with_reducible refine Y.w_V ?_
  | with_reducible refine Y.w_mI ?_
  | with_reducible refine Y.w_toVV ?_
  | (with_reducible refine Y.w_toVN ?_; dsimp only [Cn.toD])
  | ((with_reducible show Y.Wo _ _ (Y.toV (.slot _) _)); refine Y.w_toVS rfl ?_; walk_at "ds")
  | with_reducible refine Y.w_lst ?_
  | with_reducible refine Y.w_tup ?_
  | with_reducible refine Y.w_oNo ?_
  | with_reducible refine Y.w_oSm ?_
  | with_reducible refine Y.w_intI ?_
  | with_reducible refine Y.w_sl ?_
  | with_reducible refine Y.w_slTp ?_
  | ((with_reducible show Y.Wo _ _ (Y.fSlT _ _ _ _)); refine Y.w_slTu rfl (by first | decide | (simp only [List.length_cons, List.length_nil]; decide)) ?_)
  | with_reducible refine Y.w_cb ?_
  | with_reducible refine Y.w_I2 ?_
  | with_reducible refine Y.w_intB ?_
  | with_reducible refine Y.w_un ?_
  | with_reducible refine Y.w_neg ?_
  | ((with_reducible show Y.Wo _ _ (Y.fLen _ [_])); first | refine Y.w_len rfl rfl ?_ | refine Y.w_lenC (by assumption) ?_)
  | ((with_reducible show Y.Wo _ _ (Y.fList _ [_])); refine Y.w_list rfl ?_)
  | ((with_reducible show Y.Wo _ _ (Y.fSl _ _ _ _)); refine Y.w_slL rfl rfl ?_)
  | with_reducible refine Y.w_bm ?_
  | with_reducible refine Y.w_asgK ?_
  | with_reducible refine Y.w_sjoin ?_
  | ((with_reducible refine Y.w_mulS ?_ ?_); (focus (· walk_at "sd")))
  | with_reducible refine Y.w_lr1 ?_
  | ((with_reducible refine Y.w_lr1I ?_ ?_ ?_); (focus (· walk_at "sd")); (focus (· walk_at "sd")))
  | with_reducible refine Y.w_abs ?_
  | with_reducible refine Y.w_sidx ?_
  | with_reducible refine Y.w_tidx ?_
  | with_reducible refine Y.w_rng3 ?_
  | with_reducible refine Y.w_callN ?_
  | with_reducible refine Y.w_par ?_
  | ((with_reducible show Y.Wo _ _ (Y.mLcD _ _ _ _ _ _ _)); first | refine Y.w_lcD1 rfl ?_ | (refine Y.w_lcD2 rfl ?_; walk_at "ds"))
  | ((with_reducible show Y.Wo _ _ (Y.mLcO _ _ _ _ _ _)); refine Y.w_lcO rfl ?_; walk_at "ds")
  | with_reducible refine Y.w_pop ?_
  | with_reducible refine Y.w_dnew ?_
  | with_reducible refine Y.w_lr2 ?_
  | with_reducible refine Y.w_lcG ?_
  | with_reducible refine Y.w_disp ?_
  | with_reducible refine Y.w_kvCons ?_
  | with_reducible refine Y.w_kvNil ?_
  | with_reducible refine Y.w_setD ?_
  | with_reducible refine Y.w_dnewT ?_
  | with_reducible refine Y.w_asgST ?_
  | with_reducible refine Y.w_get2T ?_
  | with_reducible refine Y.w_get1T ?_
  | with_reducible refine Y.w_get1 ?_
  | with_reducible refine Y.w_sortVals ?_
  | with_reducible refine Y.w_minVals ?_
  | with_reducible refine Y.w_asgTB ?_
  | with_reducible refine Y.w_get2 ?_
  | with_reducible refine Y.w_wn ?_
  | ((with_reducible show ∃ l, AI.new (.dK _) = AI.new (.dK l) ∧ _); refine ⟨_, rfl, ?_⟩)
  | with_reducible refine Y.w_fldS ?_
  | with_reducible refine Y.w_K ?_
  | with_reducible refine Y.w_toKV ?_
  | (with_reducible refine Y.w_toKN ?_; try (dsimp only [List.length_cons, List.length_nil, List.cons_append, List.nil_append, Nat.reduceAdd]))
  | with_reducible refine Y.w_toKS ?_
  | with_reducible refine Y.w_fld ?_
  | with_reducible refine Y.w_fldA ?_
  | with_reducible refine Y.w_methN ?_
  | with_reducible refine Y.w_methS ?_
  | with_reducible refine Y.w_makeN ?_
  | with_reducible refine Y.w_makeS ?_
  | ((with_reducible show ∃ k c fs d, Y.objAt _ _ = some (k, c, fs) ∧ _ ∧ _ ∧ _); first | refine ⟨_, _, _, _, rfl, rfl, rfl, ?_⟩ | refine ⟨_, _, _, _, Y.objAt_of (by assumption), rfl, rfl, ?_⟩)
  | ((with_reducible show ∃ k fs, Y.objAt _ _ = some (k, _, fs) ∧ _ ∧ _); first | refine ⟨_, _, rfl, rfl, ?_⟩ | refine ⟨_, _, Y.objAt_of (by assumption), rfl, ?_⟩)
  | ((with_reducible show ∃ k c fs, Y.objAt _ _ = some (k, c, fs) ∧ _ ∧ _); first | refine ⟨_, _, _, rfl, ⟨rfl, by first | decide | simp⟩, ?_⟩ | refine ⟨_, _, _, Y.objAt_of (by assumption), ⟨rfl, by first | decide | simp⟩, ?_⟩)
  | ((with_reducible show (∃ l, Y.viewD _ _ = some l) ∧ _); refine ⟨⟨_, rfl⟩, ?_⟩)
  | with_reducible refine Y.w_call ?_
  | with_reducible refine Y.w_callP ?_
  | with_reducible refine Y.w_callT ?_
  | with_reducible refine Y.w_callTS ?_
  | with_reducible refine Y.w_vConsK ?_
  | with_reducible refine Y.w_callPS ?_
  | ((with_reducible refine Y.noid_and ?_ ?_); (focus (· first | rfl | (simp only [D.noIdL, D.noId, Y.noIdL_ints, Bool.and_self, Bool.and_true, Bool.true_and]; done))))
  | with_reducible refine Y.w_raise ?_
  | with_reducible refine Y.w_raiseA ?_
  | with_reducible refine Y.w_tryA ?_
  | with_reducible refine Y.w_tryM ?_
  | ((with_reducible show Y.Wo _ _ (Y.mXf _ _ _ _)); refine Y.w_xf rfl rfl rfl ?_)
  | ((with_reducible show Y.Wo _ _ (Y.mIsX _ _ _)); refine Y.w_isX rfl rfl ?_)
  | ((with_reducible show ∃ w x, [_, _] = [w, x] ∧ _); refine ⟨_, _, rfl, ?_⟩; try (walk_at "ds"))
  | with_reducible refine Y.w_callB ?_
  | with_reducible refine Y.w_callC ?_
  | with_reducible refine Y.w_drop ?_
  | with_reducible refine Y.w_next ?_
  | with_reducible refine Y.w_for ?_
  | ((with_reducible show Y.Ws _ _ (Y.mForD _ _ _ _ _)); refine Y.w_forD rfl ?_)
  | with_reducible refine Y.w_rng1 ?_
  | ((with_reducible refine Y.w_rng1I ?_ ?_); (focus (· walk_at "sd")))
  | with_reducible refine Y.w_rng2 ?_
  | ((with_reducible refine Y.w_rng2I ?_ ?_); (focus (· walk_at "sd")))
  | with_reducible refine Y.w_wl ?_
  | ((with_reducible show ∃ l', Y.listOf _ _ = some l' ∧ _); refine ⟨_, rfl, ?_⟩; dsimp only [ckOf])
  | with_reducible refine Y.w_augS ?_
  | with_reducible refine Y.w_wz ?_
  | with_reducible refine Y.w_wzI ?_
  | with_reducible refine Y.w_wt ?_
  | with_reducible refine Y.w_we ?_
  | ((with_reducible show ∃ d' l', [_] = [d'] ∧ Y.listOf _ d' = some l' ∧ _); refine ⟨_, _, rfl, rfl, ?_⟩; dsimp only [ckOf])
  | with_reducible refine Y.w_ws ?_
  | with_reducible refine Y.w_lc ?_
  | with_reducible refine Y.w_asgT ?_
  | with_reducible refine Y.w_asgS ?_
  | ((with_reducible show Y.Ws _ _ (Y.mAug _ _ _ _)); refine Y.w_aug rfl ?_)
  | with_reducible refine Y.w_isB ?_
  | with_reducible refine Y.w_isnB ?_
  | ((with_reducible show Y.Wo _ _ (Y.fIs _ _ (.val .non))); refine Y.w_isN rfl ?_)
  | ((with_reducible show Y.Wo _ _ (Y.fIsn _ _ (.val .non))); refine Y.w_isnN rfl ?_)
  | ((with_reducible show ∃ l, Y.viewL _ _ = some l ∧ _); first | refine ⟨_, rfl, ?_⟩ | refine ⟨_, Y.viewL_cid (by assumption), ?_⟩)
  | ((with_reducible show ∃ l, Y.tupOf _ = some l ∧ _); refine ⟨_, rfl, ?_⟩; try (dsimp only []))
  | ((with_reducible show ∃ x, AI.val (D.str _) = AI.val (D.str x) ∧ _); refine ⟨_, rfl, ?_⟩; try dsimp only [])
  | ((with_reducible show ∃ c, AI.new _ = AI.new c ∧ _); refine ⟨_, rfl, ?_⟩; try (walk_at "ds"))
  | ((with_reducible show _ ∧ Y.Wo _ _ _); refine ⟨by walk_at "sd", ?_⟩)
  | ((with_reducible show _ ≤ sizeLine ∧ _); refine ⟨by walk_at "sd", ?_⟩)
  | ((with_reducible show Y.So _ (Y.tgN _ _ _)); refine Y.so_some ?_; walk_at "ds")
  | ((with_reducible show Y.So _ (Y.tgT _ _ _ _)); refine Y.so_set rfl ?_; walk_at "ds")
  | ((with_reducible show Y.So _ (Y.tgL _ _ _ _)); refine Y.so_set rfl ?_; walk_at "ds")
  | ((with_reducible show if decide ((Str.ofString _) = Str.ofString _) = true then _ else _); first | refine Z.z_ifY (by decide +kernel) ?_ | refine Z.z_ifN (by decide +kernel) ?_))
local macro_rules | `(tactic| walk_at "w") => `(tactic| repeat (walk_at "w1"))
-- a draw of the law (not used)
local macro_rules | `(tactic| walk_at "dr") => `(tactic| (refine fo_use (next_ok (by assumption) (by first | decide | omega) (by first | decide | omega)) ?_; rintro _ _ ⟨_, rfl, _, _, _⟩; have := Kpt.dr (by assumption); walk_at "w"))
-- as "w", but stops ahead of an if that is followed by something, or of a loop
local macro_rules | `(tactic| walk_at "wi") => `(tactic| repeat ((fail_if_success (with_reducible show Y.Ws _ _ (Y.mSeq (Y.mIfS _ _ _) _ _))); walk_at "w1"))

@[irreducible] noncomputable def b_l_draw : Ms :=
  (mRet (mLst (vCons (mOp fMul (mOp (fI CDiv fun i j => .int (i / j)) (mName 0) (mC (.int 2))) (mOp (fI0 fun i j => .int (i - j)) (mC (.int 1)) (mOp (fI (fun _ j => 0 < j) fun i j => .int (i % j)) (mName 0) (mC (.int 2))))) (vCons (mName 0) vNil))))
noncomputable def m_l_draw : Mf := mFn 1 1 b_l_draw
theorem ok_l_draw {P : Program} {w : World} {K : PySem.W.Frag} {mg : Str → Option Value} {base : Heap} (T : Tx K mg) : FnOk P w K mg base CX0 1 T.a_l_draw T.d_l_draw ["_law_cell"] (spM K (ctT T) m_l_draw) :=
  T.F_l_draw.ok sc_l_draw (fun vs H Q E h => sp_len h) (fun cdv A outer s H vs Q E hr h => ⟨_, (pss_one (ps_ret (pe_lst (pa_cons (pe_op op_mulZ (pe_op op_fdiv (pv 0) pe_int) (pe_op op_sub pe_int (pe_op op_mod (pv 0) pe_int))) (pa_cons (pv 0) pa_nil))))),
    fn_run (np := 1) (N := ["_law_cell"]) (body := b_l_draw) (by unfold b_l_draw; exact (sv_ret (ei_lst (ev_cons (ei_op j_mul (ei_op (j_I fun _ _ => cr_int) ei_var (ei_c cr_int)) (ei_op (j_I0 fun _ _ => cr_int) (ei_c cr_int) (ei_op (j_I fun _ _ => cr_int) ei_var (ei_c cr_int)))) (ev_cons ei_var ev_nil))))) h⟩)
@[irreducible] noncomputable def b_l_name_at : Ms :=
  (mSeq (mAsg 2 (mDisp (kvCons (mC (.int 45)) (mC (.str (Str.ofString "-"))) (kvCons (mC (.int 46)) (mC (.str (Str.ofString "."))) kvNil))))
  (mSeq (mFor (mRng1 (aCons (mC (.int 10)) aNil)) (tgN 3) (mAsgS (mName 2) (mOp fAdd (mC (.int 48)) (mName 3)) (mCB fStr (aCons (mName 3) aNil))))
  (mSeq (mFor (mRng1 (aCons (mC (.int 26)) aNil)) (tgN 3) (mAsgS (mName 2) (mOp fAdd (mC (.int 97)) (mName 3)) (mOp fIxY (mC (.str (Str.ofString "abcdefghijklmnopqrstuvwxyz"))) (mName 3))))
  (mSeq (mAsg 4 (mSl (mName 0) (oSm (mName 1)) (oSm (mOp fAdd (mName 1) (mC (.int 1))))))
  (mSeq (mIfS (mOr (mBl (mOp fEq (mName 4) (mLst vNil))) (mOr (mNot (mBl (mChain (fI0 fun i j => .bl (decide (i ≤ j))) (fI0 fun i j => .bl (decide (i ≤ j))) (mC (.int 1)) (mOp fIxY (mName 4) (mC (.int 0))) (mC (.int 12))))) (mBl (mOp (fI0 fun i j => .bl (decide (i < j))) (mCB fLen (aCons (mName 0) aNil)) (mOp fAdd (mOp fAdd (mName 1) (mC (.int 1))) (mOp fIxY (mName 4) (mC (.int 0)))))))) (mRet (mC .non)) mNext)
  (mSeq (mAsg 5 (mLc [6] (mWL (mSl (mName 0) (oSm (mOp fAdd (mName 1) (mC (.int 1)))) (oSm (mOp fAdd (mOp fAdd (mName 1) (mC (.int 1))) (mOp fIxY (mName 4) (mC (.int 0))))))) (tgN 6) mYes (mGet2 (mName 2) (mName 6) (mC (.str (Str.ofString ""))))))
  (mSeq (mIfS (mBl (mOp fIn (mC (.str (Str.ofString ""))) (mName 5))) (mRet (mC .non)) mNext)
  (mRet (mJoin (mC (.str (Str.ofString ""))) (mName 5))))))))))
noncomputable def m_l_name_at : Mf := mFn 2 7 b_l_name_at
theorem ok_l_name_at {P : Program} {w : World} {K : PySem.W.Frag} {mg : Str → Option Value} {base : Heap} (T : Tx K mg) : FnOk P w K mg base CX0 1 T.a_l_name_at T.d_l_name_at ["_law_row", "_law_at"] (spM K (ctT T) m_l_name_at) :=
  T.F_l_name_at.ok sc_l_name_at (fun vs H Q E h => sp_len h) (fun cdv A outer s H vs Q E hr h => ⟨_, (pss_cons (ps_set (i := 2) sc_l_name_at.nd rfl (by first | exact Or.inl rfl | exact Or.inr rfl) (pe_disp (pps_cons pe_int pe_str (pps_cons pe_int pe_str pps_nil)) rfl rfl (by simp) (by decide)))
      (pss_cons (ps_for PassesOwn.never rfl (pi_range1 rfl T.z_range (pa_cons pe_int pa_nil)) (pg_name (i := 3) sc_l_name_at.nd rfl (by first | exact Or.inl rfl | exact Or.inr rfl)) (pss_one (ps_asg (pe_callTy (call_strY) (by rfl) T.z_str (by decide +kernel) (pa_cons (pv 3) pa_nil)) (pg_sub (pv 2) (pe_op (op_addZ (K := K) rfl) pe_int (pv 3)) (set_Y (hu_of hr))))))
      (pss_cons (ps_for PassesOwn.never rfl (pi_range1 rfl T.z_range (pa_cons pe_int pa_nil)) (pg_name (i := 3) sc_l_name_at.nd rfl (by first | exact Or.inl rfl | exact Or.inr rfl)) (pss_one (ps_asg (pe_ix (ix_Y (K := K) rfl (hu_of hr)) pe_str (pv 3) (fun _ _ => rfl)) (pg_sub (pv 2) (pe_op (op_addZ (K := K) rfl) pe_int (pv 3)) (set_Y (hu_of hr))))))
      (pss_cons (ps_set (i := 4) sc_l_name_at.nd rfl (by first | exact Or.inl rfl | exact Or.inr rfl) (pe_slice (sl_Z (K := K) rfl) (pv 0) (po_some (pv 1)) (po_some (pe_op (op_addZ (K := K) rfl) (pv 1) pe_int))))
      (pss_cons (ps_if (PW.pt (pw_or (pt_cmpR (op_eqZ (K := K) rfl hr.units) (pv 4) (pe_lst pa_nil) (nomark _)) (pw_or (pt_not (pt_chain op_le op_le pe_int (pe_ix (ix_Y (K := K) rfl (hu_of hr)) (pv 4) pe_int (fun _ _ => rfl)) pe_int)) (pw_or1 (pt_cmpR op_lt (pe_callB (call_lenY (K := K) rfl) (by rfl) T.z_len PySem.boot_len (pa_cons (pv 0) pa_nil)) (pe_op (op_addZ (K := K) rfl) (pe_op (op_addZ (K := K) rfl) (pv 1) pe_int) (pe_ix (ix_Y (K := K) rfl (hu_of hr)) (pv 4) pe_int (fun _ _ => rfl))) (nomark _)))))) (pss_one (ps_ret pe_non)) pss_nil)
      (pss_cons (ps_setLc (i := 5) (own := [("_law_byte", 6)]) rfl sc_l_name_at.nd rfl rfl (sw_true rfl rfl rfl (by decide +kernel)) (pi_listZ (K := K) rfl (pe_slice (sl_Z (K := K) rfl) (pv 0) (po_some (pe_op (op_addZ (K := K) rfl) (pv 1) pe_int)) (po_some (pe_op (op_addZ (K := K) rfl) (pe_op (op_addZ (K := K) rfl) (pv 1) pe_int) (pe_ix (ix_Y (K := K) rfl (hu_of hr)) (pv 4) pe_int (fun _ _ => rfl)))))) (blkOk_by (N := ["_law_row", "_law_at", "_law_signs", "_law_k", "_law_many", "_law_name_here", "_law_byte"]) (sc := defScope s_l_name_at) (by decide +kernel)) (fun _ _ _ _ _ => (pg_name (i := 6) sc_l_name_at.nd rfl (by first | exact Or.inl rfl | exact Or.inr rfl))) (fun _ _ _ _ _ => pts_nil) (fun _ _ _ _ _ => (pe_dget2 (hu_of hr) (pv 2) (pv 6) pe_str ⟨rfl, rfl, rfl, rfl⟩)))
      (pss_cons (ps_if (pt_cmpR (op_inY (K := K) rfl (u65 hr)) pe_str (pv 5) (by rfl)) (pss_one (ps_ret pe_non)) pss_nil)
      (pss_one (ps_ret (pe_joinY (K := K) rfl pe_str (pv 5))))))))))),
    fn_run (np := 2) (N := ["_law_row", "_law_at", "_law_signs", "_law_k", "_law_many", "_law_name_here", "_law_byte"]) (body := b_l_name_at) (by unfold b_l_name_at; exact (sv_seq (sv_asg (ei_disp (ekv_cons (ei_c cr_int) (ei_c cr_str) (ekv_cons (ei_c cr_int) (ei_c cr_str) ekv_nil))))
      (sv_seq (sv_for (jw_rng1 (ea_cons (ei_c cr_int) ea_nil)) sg_name (sv_asgS (ei_cb jb_str (ea_cons ei_var ea_nil)) ei_var (ei_op j_add (ei_c cr_int) ei_var)))
      (sv_seq (sv_for (jw_rng1 (ea_cons (ei_c cr_int) ea_nil)) sg_name (sv_asgS (ei_op j_ixY (ei_c cr_str) ei_var) ei_var (ei_op j_add (ei_c cr_int) ei_var)))
      (sv_seq (sv_asg (ei_sl ei_var (eo_sm ei_var) (eo_sm (ei_op j_add ei_var (ei_c cr_int)))))
      (sv_seq (sv_if (et_or (et_tst (ei_op j_eq ei_var (ei_lst ev_nil))) (et_or (et_not (et_tst (ei_chain (j_I0 fun _ _ => cr_bl) (j_I0 fun _ _ => cr_bl) (ei_c cr_int) (ei_op j_ixY ei_var (ei_c cr_int)) (ei_c cr_int)))) (et_tst (ei_op (j_I0 fun _ _ => cr_bl) (ei_cb jb_len (ea_cons ei_var ea_nil)) (ei_op j_add (ei_op j_add ei_var (ei_c cr_int)) (ei_op j_ixY ei_var (ei_c cr_int))))))) (sv_ret (ei_c cr_non)) sv_next)
      (sv_seq (sv_asg (ei_lc (ws := [6]) (jw_list (ei_sl ei_var (eo_sm (ei_op j_add ei_var (ei_c cr_int))) (eo_sm (ei_op j_add (ei_op j_add ei_var (ei_c cr_int)) (ei_op j_ixY ei_var (ei_c cr_int)))))) sg_name (by decide) et_yes (ei_get2 ei_var ei_var (ei_c cr_str))))
      (sv_seq (sv_if (et_tst (ei_op j_in (ei_c cr_str) ei_var)) (sv_ret (ei_c cr_non)) sv_next)
      (sv_ret (ei_join (ei_c cr_str) ei_var)))))))))) h⟩)
@[irreducible] noncomputable def b_l_entry_at : Ms :=
  (mSeq (mAsg 2 (mCallN m_l_name_at (vCons (mName 0) (vCons (mOp fAdd (mName 1) (mC (.int 1))) vNil))))
  (mSeq (mIfS (mOr (mBl (mOp fIs (mName 2) (mC .non))) (mBl (mOp (fI0 fun i j => .bl (decide (j < i))) (mOp fIxY (mName 0) (mName 1)) (mC (.int 254))))) (mRet (mC .non)) mNext)
  (mSeq (mAsg 3 (mSl (mName 0) (oSm (mOp fAdd (mOp fAdd (mName 1) (mC (.int 2))) (mCB fLen (aCons (mName 2) aNil)))) oNo))
  (mSeq (mIfS (mOr (mBl (mOp (fI0 fun i j => .bl (decide (i < j))) (mCB fLen (aCons (mName 3) aNil)) (mC (.int 3)))) (mOr (mBl (mOp fEq (mOp fIxY (mName 3) (mC (.int 0))) (mC (.int 0)))) (mBl (mOp (fI0 fun i j => .bl (decide (i < j))) (mCB fLen (aCons (mName 3) aNil)) (mOp fAdd (mC (.int 3)) (mOp fMul (mC (.int 3)) (mOp fIxY (mName 3) (mC (.int 0))))))))) (mRet (mC .non)) mNext)
  (mSeq (mAsg 4 (mOp fAdd (mOp fMul (mC (.int 256)) (mOp fIxY (mName 3) (mC (.int 1)))) (mOp fIxY (mName 3) (mC (.int 2)))))
  (mSeq (mAsg 5 (mLst vNil))
  (mSeq (mFor (mRng1 (aCons (mOp fIxY (mName 3) (mC (.int 0))) aNil)) (tgN 6) (mSeq (mAsgT (tgL 3 (tgCons (tgN 7) (tgCons (tgN 8) (tgCons (tgN 9) tgNil)))) (mSl (mName 3) (oSm (mOp fAdd (mC (.int 3)) (mOp fMul (mC (.int 3)) (mName 6)))) (oSm (mOp fAdd (mC (.int 6)) (mOp fMul (mC (.int 3)) (mName 6))))))
  (mDrop (mBM fApp (mName 5) (vCons (mOp fAdd (mOp fAdd (mOp fMul (mC (.int 65536)) (mName 7)) (mOp fMul (mC (.int 256)) (mName 8))) (mName 9)) vNil)))))
  (mSeq (mIfS (mBl (mOp (fI0 fun i j => .bl (decide (j < i))) (mName 4) (mOp fMul (mC (.int 255)) (mOp fIxY (mName 3) (mC (.int 0)))))) (mRet (mC .non)) mNext)
  (mRet (mTup (vCons (mTup (vCons (mOp fIxY (mName 0) (mName 1)) (vCons (mName 2) (vCons (mName 4) (vCons (mName 5) vNil))))) (vCons (mOp fAdd (mOp fAdd (mOp fAdd (mName 1) (mC (.int 5))) (mCB fLen (aCons (mName 2) aNil))) (mOp fMul (mC (.int 3)) (mOp fIxY (mName 3) (mC (.int 0))))) vNil))))))))))))
noncomputable def m_l_entry_at : Mf := mFn 2 10 b_l_entry_at
theorem ok_l_entry_at {P : Program} {w : World} {K : PySem.W.Frag} {mg : Str → Option Value} {base : Heap} (T : Tx K mg) : FnOk P w K mg base CX0 2 T.a_l_entry_at T.d_l_entry_at ["_law_row", "_law_at"] (spM K (ctT T) m_l_entry_at) :=
  T.F_l_entry_at.ok sc_l_entry_at (fun vs H Q E h => sp_len h) (fun cdv A outer s H vs Q E hr h => ⟨_, (pss_cons (ps_set (i := 2) sc_l_entry_at.nd rfl (by first | exact Or.inl rfl | exact Or.inr rfl) (pe_callZ (ok_l_name_at T) (hr.mono (by decide)) (by rfl) T.g_l_name_at T.F_l_name_at.kp T.b_l_name_at pass0 (pa_cons (pv 0) (pa_cons (pe_op (op_addZ (K := K) rfl) (pv 1) pe_int) pa_nil))))
      (pss_cons (ps_if (PW.pt (pw_or (pt_cmpR op_isZ (pv 2) pe_non (nomark _)) (pw_or1 (pt_cmpR op_gt (pe_ix (ix_Y (K := K) rfl (hu_of hr)) (pv 0) (pv 1) (fun _ _ => rfl)) pe_int (nomark _))))) (pss_one (ps_ret pe_non)) pss_nil)
      (pss_cons (ps_set (i := 3) sc_l_entry_at.nd rfl (by first | exact Or.inl rfl | exact Or.inr rfl) (pe_slice (sl_Z (K := K) rfl) (pv 0) (po_some (pe_op (op_addZ (K := K) rfl) (pe_op (op_addZ (K := K) rfl) (pv 1) pe_int) (pe_callB (call_lenY (K := K) rfl) (by rfl) T.z_len PySem.boot_len (pa_cons (pv 2) pa_nil)))) po_none))
      (pss_cons (ps_if (PW.pt (pw_or (pt_cmpR op_lt (pe_callB (call_lenY (K := K) rfl) (by rfl) T.z_len PySem.boot_len (pa_cons (pv 3) pa_nil)) pe_int (nomark _)) (pw_or (pt_cmpR (op_eqZ (K := K) rfl hr.units) (pe_ix (ix_Y (K := K) rfl (hu_of hr)) (pv 3) pe_int (fun _ _ => rfl)) pe_int (nomark _)) (pw_or1 (pt_cmpR op_lt (pe_callB (call_lenY (K := K) rfl) (by rfl) T.z_len PySem.boot_len (pa_cons (pv 3) pa_nil)) (pe_op (op_addZ (K := K) rfl) pe_int (pe_op op_mulZ pe_int (pe_ix (ix_Y (K := K) rfl (hu_of hr)) (pv 3) pe_int (fun _ _ => rfl)))) (nomark _)))))) (pss_one (ps_ret pe_non)) pss_nil)
      (pss_cons (ps_set (i := 4) sc_l_entry_at.nd rfl (by first | exact Or.inl rfl | exact Or.inr rfl) (pe_op (op_addZ (K := K) rfl) (pe_op op_mulZ pe_int (pe_ix (ix_Y (K := K) rfl (hu_of hr)) (pv 3) pe_int (fun _ _ => rfl))) (pe_ix (ix_Y (K := K) rfl (hu_of hr)) (pv 3) pe_int (fun _ _ => rfl))))
      (pss_cons (ps_set (i := 5) sc_l_entry_at.nd rfl (by first | exact Or.inl rfl | exact Or.inr rfl) (pe_lst pa_nil))
      (pss_cons (ps_for PassesOwn.never rfl (pi_range1 rfl T.z_range (pa_cons (pe_ix (ix_Y (K := K) rfl (hu_of hr)) (pv 3) pe_int (fun _ _ => rfl)) pa_nil)) (pg_name (i := 6) sc_l_entry_at.nd rfl (by first | exact Or.inl rfl | exact Or.inr rfl)) (pss_cons (ps_asg (pe_slice (sl_Z (K := K) rfl) (pv 3) (po_some (pe_op (op_addZ (K := K) rfl) pe_int (pe_op op_mulZ pe_int (pv 6)))) (po_some (pe_op (op_addZ (K := K) rfl) pe_int (pe_op op_mulZ pe_int (pv 6))))) (pg_lstZ (K := K) (n := 3) rfl rfl (pgs_cons (pg_name (i := 7) sc_l_entry_at.nd rfl (by first | exact Or.inl rfl | exact Or.inr rfl)) (pgs_cons (pg_name (i := 8) sc_l_entry_at.nd rfl (by first | exact Or.inl rfl | exact Or.inr rfl)) (pgs_cons (pg_name (i := 9) sc_l_entry_at.nd rfl (by first | exact Or.inl rfl | exact Or.inr rfl)) pgs_nil)))))
      (pss_one (ps_expr (pe_bmZ (K := K) rfl PySem.F.plainAttrs_list PySem.F.slot_list_append PySem.F.type_list_append mt_append (pv 5) (pa_cons (pe_op (op_addZ (K := K) rfl) (pe_op (op_addZ (K := K) rfl) (pe_op op_mulZ pe_int (pv 7)) (pe_op op_mulZ pe_int (pv 8))) (pv 9)) pa_nil))))))
      (pss_cons (ps_if (pt_cmpR op_gt (pv 4) (pe_op op_mulZ pe_int (pe_ix (ix_Y (K := K) rfl (hu_of hr)) (pv 3) pe_int (fun _ _ => rfl))) (nomark _)) (pss_one (ps_ret pe_non)) pss_nil)
      (pss_one (ps_ret (pe_tup (pa_cons (pe_tup (pa_cons (pe_ix (ix_Y (K := K) rfl (hu_of hr)) (pv 0) (pv 1) (fun _ _ => rfl)) (pa_cons (pv 2) (pa_cons (pv 4) (pa_cons (pv 5) pa_nil))))) (pa_cons (pe_op (op_addZ (K := K) rfl) (pe_op (op_addZ (K := K) rfl) (pe_op (op_addZ (K := K) rfl) (pv 1) pe_int) (pe_callB (call_lenY (K := K) rfl) (by rfl) T.z_len PySem.boot_len (pa_cons (pv 2) pa_nil))) (pe_op op_mulZ pe_int (pe_ix (ix_Y (K := K) rfl (hu_of hr)) (pv 3) pe_int (fun _ _ => rfl)))) pa_nil))))))))))))),
    fn_run (np := 2) (N := ["_law_row", "_law_at", "_law_name_here", "_law_rest", "_law_length", "_law_places_here", "_law_k", "_law_high", "_law_middle", "_law_low"]) (body := b_l_entry_at) (by unfold b_l_entry_at; exact (sv_seq (sv_asg (ei_callN (ev_cons ei_var (ev_cons (ei_op j_add ei_var (ei_c cr_int)) ev_nil))))
      (sv_seq (sv_if (et_or (et_tst (ei_op j_is ei_var (ei_c cr_non))) (et_tst (ei_op (j_I0 fun _ _ => cr_bl) (ei_op j_ixY ei_var ei_var) (ei_c cr_int)))) (sv_ret (ei_c cr_non)) sv_next)
      (sv_seq (sv_asg (ei_sl ei_var (eo_sm (ei_op j_add (ei_op j_add ei_var (ei_c cr_int)) (ei_cb jb_len (ea_cons ei_var ea_nil)))) eo_no))
      (sv_seq (sv_if (et_or (et_tst (ei_op (j_I0 fun _ _ => cr_bl) (ei_cb jb_len (ea_cons ei_var ea_nil)) (ei_c cr_int))) (et_or (et_tst (ei_op j_eq (ei_op j_ixY ei_var (ei_c cr_int)) (ei_c cr_int))) (et_tst (ei_op (j_I0 fun _ _ => cr_bl) (ei_cb jb_len (ea_cons ei_var ea_nil)) (ei_op j_add (ei_c cr_int) (ei_op j_mul (ei_c cr_int) (ei_op j_ixY ei_var (ei_c cr_int)))))))) (sv_ret (ei_c cr_non)) sv_next)
      (sv_seq (sv_asg (ei_op j_add (ei_op j_mul (ei_c cr_int) (ei_op j_ixY ei_var (ei_c cr_int))) (ei_op j_ixY ei_var (ei_c cr_int))))
      (sv_seq (sv_asg (ei_lst ev_nil))
      (sv_seq (sv_for (jw_rng1 (ea_cons (ei_op j_ixY ei_var (ei_c cr_int)) ea_nil)) sg_name (sv_seq (sv_asgL (sg_lst (sgs_cons sg_name (sgs_cons sg_name (sgs_cons sg_name sgs_nil)))) (ei_sl ei_var (eo_sm (ei_op j_add (ei_c cr_int) (ei_op j_mul (ei_c cr_int) ei_var))) (eo_sm (ei_op j_add (ei_c cr_int) (ei_op j_mul (ei_c cr_int) ei_var)))))
      (sv_drop (ei_bm jm_app ei_var (ev_cons (ei_op j_add (ei_op j_add (ei_op j_mul (ei_c cr_int) ei_var) (ei_op j_mul (ei_c cr_int) ei_var)) ei_var) ev_nil)))))
      (sv_seq (sv_if (et_tst (ei_op (j_I0 fun _ _ => cr_bl) ei_var (ei_op j_mul (ei_c cr_int) (ei_op j_ixY ei_var (ei_c cr_int))))) (sv_ret (ei_c cr_non)) sv_next)
      (sv_ret (ei_tup (ev_cons (ei_tup (ev_cons (ei_op j_ixY ei_var ei_var) (ev_cons ei_var (ev_cons ei_var (ev_cons ei_var ev_nil))))) (ev_cons (ei_op j_add (ei_op j_add (ei_op j_add ei_var (ei_c cr_int)) (ei_cb jb_len (ea_cons ei_var ea_nil))) (ei_op j_mul (ei_c cr_int) (ei_op j_ixY ei_var (ei_c cr_int)))) ev_nil))))))))))))) h⟩)
@[irreducible] noncomputable def b_l_sum : Ms :=
  (mSeq (mAsg 1 (mC (.int 65535)))
  (mSeq (mFor (mWL (mName 0)) (tgN 2) (mSeq (mAsg 1 (mOp (fI0 fun i j => .int (Builtin.bitXor i j)) (mName 1) (mOp (fI CShl fun i j => .int (i * 2 ^ j.toNat)) (mName 2) (mC (.int 8)))))
  (mFor (mRng1 (aCons (mC (.int 8)) aNil)) (tgN 3) (mSeq (mAsg 1 (mOp (fI CShl fun i j => .int (i * 2 ^ j.toNat)) (mName 1) (mC (.int 1))))
  (mIfS (mBl (mOp (fI0 fun i j => .bl (decide (j < i))) (mName 1) (mC (.int 65535)))) (mAsg 1 (mOp (fI0 fun i j => .int (Builtin.bitAnd i j)) (mOp (fI0 fun i j => .int (Builtin.bitXor i j)) (mName 1) (mC (.int 4129))) (mC (.int 65535)))) mNext)))))
  (mRet (mLst (vCons (mOp (fI CDiv fun i j => .int (i / j)) (mName 1) (mC (.int 256))) (vCons (mOp (fI (fun _ j => 0 < j) fun i j => .int (i % j)) (mName 1) (mC (.int 256))) vNil))))))
noncomputable def m_l_sum : Mf := mFn 1 4 b_l_sum
theorem ok_l_sum {P : Program} {w : World} {K : PySem.W.Frag} {mg : Str → Option Value} {base : Heap} (T : Tx K mg) : FnOk P w K mg base CX0 1 T.a_l_sum T.d_l_sum ["_law_row"] (spM K (ctT T) m_l_sum) :=
  T.F_l_sum.ok sc_l_sum (fun vs H Q E h => sp_len h) (fun cdv A outer s H vs Q E hr h => ⟨_, (pss_cons (ps_set (i := 1) sc_l_sum.nd rfl (by first | exact Or.inl rfl | exact Or.inr rfl) pe_int)
      (pss_cons (ps_for PassesOwn.never rfl (pi_listZ (K := K) rfl (pv 0)) (pg_name (i := 2) sc_l_sum.nd rfl (by first | exact Or.inl rfl | exact Or.inr rfl)) (pss_cons (ps_set (i := 1) sc_l_sum.nd rfl (by first | exact Or.inl rfl | exact Or.inr rfl) (pe_op op_xor (pv 1) (pe_op op_shlW (pv 2) pe_int)))
      (pss_one (ps_for PassesOwn.never rfl (pi_range1 rfl T.z_range (pa_cons pe_int pa_nil)) (pg_name (i := 3) sc_l_sum.nd rfl (by first | exact Or.inl rfl | exact Or.inr rfl)) (pss_cons (ps_set (i := 1) sc_l_sum.nd rfl (by first | exact Or.inl rfl | exact Or.inr rfl) (pe_op op_shlW (pv 1) pe_int))
      (pss_one (ps_if (pt_cmpR op_gt (pv 1) pe_int (nomark _)) (pss_one (ps_set (i := 1) sc_l_sum.nd rfl (by first | exact Or.inl rfl | exact Or.inr rfl) (pe_op op_and (pe_op op_xor (pv 1) pe_int) pe_int))) pss_nil)))))))
      (pss_one (ps_ret (pe_lst (pa_cons (pe_op op_fdiv (pv 1) pe_int) (pa_cons (pe_op op_mod (pv 1) pe_int) pa_nil))))))),
    fn_run (np := 1) (N := ["_law_row", "_law_found", "_law_byte", "_law_k"]) (body := b_l_sum) (by unfold b_l_sum; exact (sv_seq (sv_asg (ei_c cr_int))
      (sv_seq (sv_for (jw_list ei_var) sg_name (sv_seq (sv_asg (ei_op (j_I0 fun _ _ => cr_int) ei_var (ei_op (j_I fun _ _ => cr_int) ei_var (ei_c cr_int))))
      (sv_for (jw_rng1 (ea_cons (ei_c cr_int) ea_nil)) sg_name (sv_seq (sv_asg (ei_op (j_I fun _ _ => cr_int) ei_var (ei_c cr_int)))
      (sv_if (et_tst (ei_op (j_I0 fun _ _ => cr_bl) ei_var (ei_c cr_int))) (sv_asg (ei_op (j_I0 fun _ _ => cr_int) (ei_op (j_I0 fun _ _ => cr_int) ei_var (ei_c cr_int)) (ei_c cr_int))) sv_next)))))
      (sv_ret (ei_lst (ev_cons (ei_op (j_I fun _ _ => cr_int) ei_var (ei_c cr_int)) (ev_cons (ei_op (j_I fun _ _ => cr_int) ei_var (ei_c cr_int)) ev_nil))))))) h⟩)
@[irreducible] noncomputable def b_l_due : Ms :=
  (mSeq (mIfS (mOr (mBl (mOp fNe (mSl (mName 0) (oSm (mName 1)) (oSm (mOp fAdd (mName 1) (mC (.int 2))))) (mLst (vCons (mC (.int 165)) (vCons (mC (.int 91)) vNil))))) (mOr (mBl (mOp (fI0 fun i j => .bl (decide (i < j))) (mCB fLen (aCons (mName 0) aNil)) (mOp fAdd (mName 1) (mC (.int 5))))) (mBl (mOp (fI0 fun i j => .bl (decide (j < i))) (mOp fIxY (mName 0) (mOp fAdd (mName 1) (mC (.int 2)))) (mC (.int 30)))))) (mRet (mC .non)) mNext)
  (mSeq (mAsg 2 (mOp fAdd (mName 1) (mC (.int 3))))
  (mSeq (mAsg 3 (mLst vNil))
  (mSeq (mFor (mRng1 (aCons (mOp fIxY (mName 0) (mOp fAdd (mName 1) (mC (.int 2)))) aNil)) (tgN 4) (mSeq (mAsg 5 (mCallN m_l_entry_at (vCons (mName 0) (vCons (mName 2) vNil))))
  (mSeq (mIfS (mBl (mOp fIs (mName 5) (mC .non))) (mRet (mC .non)) mNext)
  (mSeq (mAsgT (tgT 2 (tgCons (tgN 6) (tgCons (tgN 2) tgNil))) (mName 5))
  (mSeq (mIfS (mBl (mOp fNe (mLcO 3 [7] (tgN 7) (mOr (mBl (mOp (fI0 fun i j => .bl (decide (j ≤ i))) (mOp fIxY (mName 7) (mC (.int 0))) (mOp fIxY (mName 6) (mC (.int 0))))) (mBl (mOp fEq (mOp fIxY (mName 7) (mC (.int 1))) (mOp fIxY (mName 6) (mC (.int 1)))))) (mName 7)) (mLst vNil))) (mRet (mC .non)) mNext)
  (mDrop (mBM fApp (mName 3) (vCons (mName 6) vNil))))))))
  (mSeq (mIfS (mBl (mOp fNe (mSl (mName 0) (oSm (mName 2)) (oSm (mOp fAdd (mName 2) (mC (.int 2))))) (mCallN m_l_sum (vCons (mSl (mName 0) (oSm (mOp fAdd (mName 1) (mC (.int 2)))) (oSm (mName 2))) vNil)))) (mRet (mC .non)) mNext)
  (mRet (mTup (vCons (mName 3) (vCons (mOp fAdd (mName 2) (mC (.int 2))) vNil)))))))))
noncomputable def m_l_due : Mf := mFn 2 8 b_l_due
theorem ok_l_due {P : Program} {w : World} {K : PySem.W.Frag} {mg : Str → Option Value} {base : Heap} (T : Tx K mg) : FnOk P w K mg base CX0 3 T.a_l_due T.d_l_due ["_law_row", "_law_place"] (spM K (ctT T) m_l_due) :=
  T.F_l_due.ok sc_l_due (fun vs H Q E h => sp_len h) (fun cdv A outer s H vs Q E hr h => ⟨_, (pss_cons (ps_if (PW.pt (pw_or (pt_cmpR (op_neZ (K := K) rfl hr.units) (pe_slice (sl_Z (K := K) rfl) (pv 0) (po_some (pv 1)) (po_some (pe_op (op_addZ (K := K) rfl) (pv 1) pe_int))) (pe_lst (pa_cons pe_int (pa_cons pe_int pa_nil))) (nomark _)) (pw_or (pt_cmpR op_lt (pe_callB (call_lenY (K := K) rfl) (by rfl) T.z_len PySem.boot_len (pa_cons (pv 0) pa_nil)) (pe_op (op_addZ (K := K) rfl) (pv 1) pe_int) (nomark _)) (pw_or1 (pt_cmpR op_gt (pe_ix (ix_Y (K := K) rfl (hu_of hr)) (pv 0) (pe_op (op_addZ (K := K) rfl) (pv 1) pe_int) (fun _ _ => rfl)) pe_int (nomark _)))))) (pss_one (ps_ret pe_non)) pss_nil)
      (pss_cons (ps_set (i := 2) sc_l_due.nd rfl (by first | exact Or.inl rfl | exact Or.inr rfl) (pe_op (op_addZ (K := K) rfl) (pv 1) pe_int))
      (pss_cons (ps_set (i := 3) sc_l_due.nd rfl (by first | exact Or.inl rfl | exact Or.inr rfl) (pe_lst pa_nil))
      (pss_cons (ps_for PassesOwn.never rfl (pi_range1 rfl T.z_range (pa_cons (pe_ix (ix_Y (K := K) rfl (hu_of hr)) (pv 0) (pe_op (op_addZ (K := K) rfl) (pv 1) pe_int) (fun _ _ => rfl)) pa_nil)) (pg_name (i := 4) sc_l_due.nd rfl (by first | exact Or.inl rfl | exact Or.inr rfl)) (pss_cons (ps_set (i := 5) sc_l_due.nd rfl (by first | exact Or.inl rfl | exact Or.inr rfl) (pe_callZ (ok_l_entry_at T) (hr.mono (by decide)) (by rfl) T.g_l_entry_at T.F_l_entry_at.kp T.b_l_entry_at pass0 (pa_cons (pv 0) (pa_cons (pv 2) pa_nil))))
      (pss_cons (ps_if (pt_cmpR op_isZ (pv 5) pe_non (nomark _)) (pss_one (ps_ret pe_non)) pss_nil)
      (pss_cons (ps_asg (pv 5) (pg_tupZ (K := K) (n := 2) rfl rfl (pgs_cons (pg_name (i := 6) sc_l_due.nd rfl (by first | exact Or.inl rfl | exact Or.inr rfl)) (pgs_cons (pg_name (i := 2) sc_l_due.nd rfl (by first | exact Or.inl rfl | exact Or.inr rfl)) pgs_nil))))
      (pss_cons (ps_if (pt_cmpR (op_neZ (K := K) rfl hr.units) (pe_lc (own := [("_law_other", 7)]) rfl sc_l_due.nd (pi_listZ (K := K) rfl (pv 3)) (blkOk_by (N := ["_law_row", "_law_place", "_law_at", "_law_entries_here", "_law_k", "_law_found", "_law_entry_here", "_law_other"]) (sc := defScope s_l_due) (by decide +kernel)) (fun _ _ _ _ _ => (pg_name (i := 7) sc_l_due.nd rfl (by first | exact Or.inl rfl | exact Or.inr rfl))) (fun _ _ _ _ _ => (pts_one (PW.pt (pw_or (pt_cmpR op_ge (pe_ix (ix_Y (K := K) rfl (hu_of hr)) (pv 7) pe_int (fun _ _ => rfl)) (pe_ix (ix_Y (K := K) rfl (hu_of hr)) (pv 6) pe_int (fun _ _ => rfl)) (nomark _)) (pw_or1 (pt_cmpR (op_eqZ (K := K) rfl hr.units) (pe_ix (ix_Y (K := K) rfl (hu_of hr)) (pv 7) pe_int (fun _ _ => rfl)) (pe_ix (ix_Y (K := K) rfl (hu_of hr)) (pv 6) pe_int (fun _ _ => rfl)) (nomark _))))))) (fun _ _ _ _ _ => (pv 7))) (pe_lst pa_nil) (nomark _)) (pss_one (ps_ret pe_non)) pss_nil)
      (pss_one (ps_expr (pe_bmZ (K := K) rfl PySem.F.plainAttrs_list PySem.F.slot_list_append PySem.F.type_list_append mt_append (pv 3) (pa_cons (pv 6) pa_nil)))))))))
      (pss_cons (ps_if (pt_cmpR (op_neZ (K := K) rfl hr.units) (pe_slice (sl_Z (K := K) rfl) (pv 0) (po_some (pv 2)) (po_some (pe_op (op_addZ (K := K) rfl) (pv 2) pe_int))) (pe_callZ (ok_l_sum T) (hr.mono (by decide)) (by rfl) T.g_l_sum T.F_l_sum.kp T.b_l_sum pass0 (pa_cons (pe_slice (sl_Z (K := K) rfl) (pv 0) (po_some (pe_op (op_addZ (K := K) rfl) (pv 1) pe_int)) (po_some (pv 2))) pa_nil)) (nomark _)) (pss_one (ps_ret pe_non)) pss_nil)
      (pss_one (ps_ret (pe_tup (pa_cons (pv 3) (pa_cons (pe_op (op_addZ (K := K) rfl) (pv 2) pe_int) pa_nil)))))))))),
    fn_run (np := 2) (N := ["_law_row", "_law_place", "_law_at", "_law_entries_here", "_law_k", "_law_found", "_law_entry_here", "_law_other"]) (body := b_l_due) (by unfold b_l_due; exact (sv_seq (sv_if (et_or (et_tst (ei_op j_ne (ei_sl ei_var (eo_sm ei_var) (eo_sm (ei_op j_add ei_var (ei_c cr_int)))) (ei_lst (ev_cons (ei_c cr_int) (ev_cons (ei_c cr_int) ev_nil))))) (et_or (et_tst (ei_op (j_I0 fun _ _ => cr_bl) (ei_cb jb_len (ea_cons ei_var ea_nil)) (ei_op j_add ei_var (ei_c cr_int)))) (et_tst (ei_op (j_I0 fun _ _ => cr_bl) (ei_op j_ixY ei_var (ei_op j_add ei_var (ei_c cr_int))) (ei_c cr_int))))) (sv_ret (ei_c cr_non)) sv_next)
      (sv_seq (sv_asg (ei_op j_add ei_var (ei_c cr_int)))
      (sv_seq (sv_asg (ei_lst ev_nil))
      (sv_seq (sv_for (jw_rng1 (ea_cons (ei_op j_ixY ei_var (ei_op j_add ei_var (ei_c cr_int))) ea_nil)) sg_name (sv_seq (sv_asg (ei_callN (ev_cons ei_var (ev_cons ei_var ev_nil))))
      (sv_seq (sv_if (et_tst (ei_op j_is ei_var (ei_c cr_non))) (sv_ret (ei_c cr_non)) sv_next)
      (sv_seq (sv_asgT (sg_tup (sgs_cons sg_name (sgs_cons sg_name sgs_nil))) ei_var)
      (sv_seq (sv_if (et_tst (ei_op j_ne (ei_lcO (i := 3) (ws := [7]) sg_name (by decide) (et_or (et_tst (ei_op (j_I0 fun _ _ => cr_bl) (ei_op j_ixY ei_var (ei_c cr_int)) (ei_op j_ixY ei_var (ei_c cr_int)))) (et_tst (ei_op j_eq (ei_op j_ixY ei_var (ei_c cr_int)) (ei_op j_ixY ei_var (ei_c cr_int))))) ei_var) (ei_lst ev_nil))) (sv_ret (ei_c cr_non)) sv_next)
      (sv_drop (ei_bm jm_app ei_var (ev_cons ei_var ev_nil))))))))
      (sv_seq (sv_if (et_tst (ei_op j_ne (ei_sl ei_var (eo_sm ei_var) (eo_sm (ei_op j_add ei_var (ei_c cr_int)))) (ei_callN (ev_cons (ei_sl ei_var (eo_sm (ei_op j_add ei_var (ei_c cr_int))) (eo_sm ei_var)) ev_nil)))) (sv_ret (ei_c cr_non)) sv_next)
      (sv_ret (ei_tup (ev_cons ei_var (ev_cons (ei_op j_add ei_var (ei_c cr_int)) ev_nil)))))))))) h⟩)
@[irreducible] noncomputable def b_l_next : Ms :=
  (mSeq (mAsgS (mName 0) (mC (.int 1)) (mOp (fI (fun _ j => 0 < j) fun i j => .int (i % j)) (mOp fAdd (mOp fMul (mOp fIxY (mName 0) (mC (.int 1))) (mC (.int 48271))) (mC (.int 11))) (mC (.int 2147483647))))
  (mSeq (mIfS (mBl (mOp (fI0 fun i j => .bl (decide (j < i))) (mOp fIxY (mName 0) (mC (.int 0))) (mC (.int 0)))) (mSeq (mAsg 2 (mOp (fI (fun _ j => 0 < j) fun i j => .int (i % j)) (mOp fIxY (mName 0) (mC (.int 0))) (mName 1)))
  (mSeq (mAsgS (mName 0) (mC (.int 0)) (mOp (fI CDiv fun i j => .int (i / j)) (mOp fIxY (mName 0) (mC (.int 0))) (mName 1)))
  (mRet (mName 2)))) mNext)
  (mSeq (mAsg 3 (mOp (fI (fun _ j => 0 < j) fun i j => .int (i % j)) (mOp fMul (mOp fIxY (mName 0) (mC (.int 1))) (mOp fAdd (mOp (fI CDiv fun i j => .int (i / j)) (mOp fIxY (mName 0) (mC (.int 1))) (mC (.int 1009))) (mC (.int 69621)))) (mC (.int 2147483647))))
  (mRet (mOp (fI (fun _ j => 0 < j) fun i j => .int (i % j)) (mOp (fI (fun _ j => 0 < j) fun i j => .int (i % j)) (mOp fMul (mName 3) (mOp fAdd (mOp (fI CDiv fun i j => .int (i / j)) (mName 3) (mC (.int 757))) (mC (.int 16807)))) (mC (.int 2147483629))) (mName 1))))))
noncomputable def m_l_next : Mf := mFn 2 4 b_l_next
theorem ok_l_next {P : Program} {w : World} {K : PySem.W.Frag} {mg : Str → Option Value} {base : Heap} (T : Tx K mg) : FnOk P w K mg base CX0 1 T.a_l_next T.d_l_next ["_law_draw_here", "_law_size"] (spM K (ctT T) m_l_next) :=
  T.F_l_next.ok sc_l_next (fun vs H Q E h => sp_len h) (fun cdv A outer s H vs Q E hr h => ⟨_, (pss_cons (ps_asg (pe_op op_mod (pe_op (op_addZ (K := K) rfl) (pe_op op_mulZ (pe_ix (ix_Y (K := K) rfl (hu_of hr)) (pv 0) pe_int (fun _ _ => rfl)) pe_int) pe_int) pe_int) (pg_sub (pv 0) pe_int (set_Y (hu_of hr))))
      (pss_cons (ps_if (pt_cmpR op_gt (pe_ix (ix_Y (K := K) rfl (hu_of hr)) (pv 0) pe_int (fun _ _ => rfl)) pe_int (nomark _)) (pss_cons (ps_set (i := 2) sc_l_next.nd rfl (by first | exact Or.inl rfl | exact Or.inr rfl) (pe_op op_mod (pe_ix (ix_Y (K := K) rfl (hu_of hr)) (pv 0) pe_int (fun _ _ => rfl)) (pv 1)))
      (pss_cons (ps_asg (pe_op op_fdiv (pe_ix (ix_Y (K := K) rfl (hu_of hr)) (pv 0) pe_int (fun _ _ => rfl)) (pv 1)) (pg_sub (pv 0) pe_int (set_Y (hu_of hr))))
      (pss_one (ps_ret (pv 2))))) pss_nil)
      (pss_cons (ps_set (i := 3) sc_l_next.nd rfl (by first | exact Or.inl rfl | exact Or.inr rfl) (pe_op op_mod (pe_op op_mulZ (pe_ix (ix_Y (K := K) rfl (hu_of hr)) (pv 0) pe_int (fun _ _ => rfl)) (pe_op (op_addZ (K := K) rfl) (pe_op op_fdiv (pe_ix (ix_Y (K := K) rfl (hu_of hr)) (pv 0) pe_int (fun _ _ => rfl)) pe_int) pe_int)) pe_int))
      (pss_one (ps_ret (pe_op op_mod (pe_op op_mod (pe_op op_mulZ (pv 3) (pe_op (op_addZ (K := K) rfl) (pe_op op_fdiv (pv 3) pe_int) pe_int)) pe_int) (pv 1))))))),
    fn_run (np := 2) (N := ["_law_draw_here", "_law_size", "_law_digit", "_law_number"]) (body := b_l_next) (by unfold b_l_next; exact (sv_seq (sv_asgS (ei_op (j_I fun _ _ => cr_int) (ei_op j_add (ei_op j_mul (ei_op j_ixY ei_var (ei_c cr_int)) (ei_c cr_int)) (ei_c cr_int)) (ei_c cr_int)) ei_var (ei_c cr_int))
      (sv_seq (sv_if (et_tst (ei_op (j_I0 fun _ _ => cr_bl) (ei_op j_ixY ei_var (ei_c cr_int)) (ei_c cr_int))) (sv_seq (sv_asg (ei_op (j_I fun _ _ => cr_int) (ei_op j_ixY ei_var (ei_c cr_int)) ei_var))
      (sv_seq (sv_asgS (ei_op (j_I fun _ _ => cr_int) (ei_op j_ixY ei_var (ei_c cr_int)) ei_var) ei_var (ei_c cr_int))
      (sv_ret ei_var))) sv_next)
      (sv_seq (sv_asg (ei_op (j_I fun _ _ => cr_int) (ei_op j_mul (ei_op j_ixY ei_var (ei_c cr_int)) (ei_op j_add (ei_op (j_I fun _ _ => cr_int) (ei_op j_ixY ei_var (ei_c cr_int)) (ei_c cr_int)) (ei_c cr_int))) (ei_c cr_int)))
      (sv_ret (ei_op (j_I fun _ _ => cr_int) (ei_op (j_I fun _ _ => cr_int) (ei_op j_mul ei_var (ei_op j_add (ei_op (j_I fun _ _ => cr_int) ei_var (ei_c cr_int)) (ei_c cr_int))) (ei_c cr_int)) ei_var)))))) h⟩)
@[irreducible] noncomputable def b_l_name : Ms :=
  (mSeq (mAsg 1 (mC (.str (Str.ofString "-.0123456789abcdefghijklmnopqrstuvwxyz"))))
  (mSeq (mAsg 2 (mOp fIxY (mLst (vCons (mOp fAdd (mC (.int 1)) (mCallN m_l_next (vCons (mName 0) (vCons (mC (.int 12)) vNil)))) (vCons (mC (.int 1)) (vCons (mC (.int 12)) (vCons (mC (.int 2)) vNil))))) (mCallN m_l_next (vCons (mName 0) (vCons (mC (.int 4)) vNil)))))
  (mRet (mJoin (mC (.str (Str.ofString ""))) (mLc [3] (mRng1 (aCons (mName 2) aNil)) (tgN 3) mYes (mOp fIxY (mName 1) (mCallN m_l_next (vCons (mName 0) (vCons (mC (.int 38)) vNil)))))))))
noncomputable def m_l_name : Mf := mFn 1 4 b_l_name
theorem ok_l_name {P : Program} {w : World} {K : PySem.W.Frag} {mg : Str → Option Value} {base : Heap} (T : Tx K mg) : FnOk P w K mg base CX0 2 T.a_l_name T.d_l_name ["_law_draw_here"] (spM K (ctT T) m_l_name) :=
  T.F_l_name.ok sc_l_name (fun vs H Q E h => sp_len h) (fun cdv A outer s H vs Q E hr h => ⟨_, (pss_cons (ps_set (i := 1) sc_l_name.nd rfl (by first | exact Or.inl rfl | exact Or.inr rfl) pe_str)
      (pss_cons (ps_set (i := 2) sc_l_name.nd rfl (by first | exact Or.inl rfl | exact Or.inr rfl) (pe_ix (ix_Y (K := K) rfl (hu_of hr)) (pe_lst (pa_cons (pe_op (op_addZ (K := K) rfl) pe_int (pe_callZ (ok_l_next T) (hr.mono (by decide)) (by rfl) T.g_l_next T.F_l_next.kp T.b_l_next pass0 (pa_cons (pv 0) (pa_cons pe_int pa_nil)))) (pa_cons pe_int (pa_cons pe_int (pa_cons pe_int pa_nil))))) (pe_callZ (ok_l_next T) (hr.mono (by decide)) (by rfl) T.g_l_next T.F_l_next.kp T.b_l_next pass0 (pa_cons (pv 0) (pa_cons pe_int pa_nil))) (fun _ _ => rfl)))
      (pss_one (ps_ret (pe_joinY (K := K) rfl pe_str (pe_lc (own := [("_law_k", 3)]) rfl sc_l_name.nd (pi_range1 rfl T.z_range (pa_cons (pv 2) pa_nil)) (blkOk_by (N := ["_law_draw_here", "_law_signs", "_law_size", "_law_k"]) (sc := defScope s_l_name) (by decide +kernel)) (fun _ _ _ _ _ => (pg_name (i := 3) sc_l_name.nd rfl (by first | exact Or.inl rfl | exact Or.inr rfl))) (fun _ _ _ _ _ => pts_nil) (fun _ _ _ _ _ => (pe_ix (ix_Y (K := K) rfl (hu_of hr)) (pv 1) (pe_callZ (ok_l_next T) (hr.mono (by decide)) (by rfl) T.g_l_next T.F_l_next.kp T.b_l_next pass0 (pa_cons (pv 0) (pa_cons pe_int pa_nil))) (fun _ _ => rfl))))))))),
    fn_run (np := 1) (N := ["_law_draw_here", "_law_signs", "_law_size", "_law_k"]) (body := b_l_name) (by unfold b_l_name; exact (sv_seq (sv_asg (ei_c cr_str))
      (sv_seq (sv_asg (ei_op j_ixY (ei_lst (ev_cons (ei_op j_add (ei_c cr_int) (ei_callN (ev_cons ei_var (ev_cons (ei_c cr_int) ev_nil)))) (ev_cons (ei_c cr_int) (ev_cons (ei_c cr_int) (ev_cons (ei_c cr_int) ev_nil))))) (ei_callN (ev_cons ei_var (ev_cons (ei_c cr_int) ev_nil)))))
      (sv_ret (ei_join (ei_c cr_str) (ei_lc (ws := [3]) (jw_rng1 (ea_cons ei_var ea_nil)) sg_name (by decide) et_yes (ei_op j_ixY ei_var (ei_callN (ev_cons ei_var (ev_cons (ei_c cr_int) ev_nil)))))))))) h⟩)
@[irreducible] noncomputable def b_l_places : Ms :=
  (mSeq (mAsg 2 (mOp fIxY (mLst (vCons (mOp fAdd (mC (.int 1)) (mCallN m_l_next (vCons (mName 0) (vCons (mC (.int 5)) vNil)))) (vCons (mC (.int 1)) (vCons (mC (.int 40)) (vCons (mC (.int 255)) vNil))))) (mCB (fI2 max) (aCons (mC (.int 0)) (aCons (mOp (fI0 fun i j => .int (i - j)) (mCallN m_l_next (vCons (mName 0) (vCons (mC (.int 12)) vNil))) (mC (.int 8))) aNil)))))
  (mSeq (mAsg 3 (mLst vNil))
  (mSeq (mFor (mRng1 (aCons (mCB (fI2 min) (aCons (mName 2) (aCons (mName 1) aNil))) aNil)) (tgN 4) (mSeq (mAsg 5 (mCB (fI2 max) (aCons (mC (.int 0)) (aCons (mOp (fI0 fun i j => .int (i - j)) (mCallN m_l_next (vCons (mName 0) (vCons (mC (.int 9)) vNil))) (mC (.int 5))) aNil))))
  (mDrop (mBM fApp (mName 3) (vCons (mOp fIxY (mLst (vCons (mCallN m_l_next (vCons (mName 0) (vCons (mC (.int 3000)) vNil))) (vCons (mCallN m_l_next (vCons (mName 0) (vCons (mC (.int 16777216)) vNil))) (vCons (mC (.int 16777215)) (vCons (mC (.int 0)) vNil))))) (mName 5)) vNil)))))
  (mRet (mName 3)))))
noncomputable def m_l_places : Mf := mFn 2 6 b_l_places
theorem ok_l_places {P : Program} {w : World} {K : PySem.W.Frag} {mg : Str → Option Value} {base : Heap} (T : Tx K mg) : FnOk P w K mg base CX0 2 T.a_l_places T.d_l_places ["_law_draw_here", "_law_most"] (spM K (ctT T) m_l_places) :=
  T.F_l_places.ok sc_l_places (fun vs H Q E h => sp_len h) (fun cdv A outer s H vs Q E hr h => ⟨_, (pss_cons (ps_set (i := 2) sc_l_places.nd rfl (by first | exact Or.inl rfl | exact Or.inr rfl) (pe_ix (ix_Y (K := K) rfl (hu_of hr)) (pe_lst (pa_cons (pe_op (op_addZ (K := K) rfl) pe_int (pe_callZ (ok_l_next T) (hr.mono (by decide)) (by rfl) T.g_l_next T.F_l_next.kp T.b_l_next pass0 (pa_cons (pv 0) (pa_cons pe_int pa_nil)))) (pa_cons pe_int (pa_cons pe_int (pa_cons pe_int pa_nil))))) (pe_callB (call_max2Z rfl) (by rfl) T.z_max (by decide +kernel) (pa_cons pe_int (pa_cons (pe_op op_sub (pe_callZ (ok_l_next T) (hr.mono (by decide)) (by rfl) T.g_l_next T.F_l_next.kp T.b_l_next pass0 (pa_cons (pv 0) (pa_cons pe_int pa_nil))) pe_int) pa_nil))) (fun _ _ => rfl)))
      (pss_cons (ps_set (i := 3) sc_l_places.nd rfl (by first | exact Or.inl rfl | exact Or.inr rfl) (pe_lst pa_nil))
      (pss_cons (ps_for PassesOwn.never rfl (pi_range1 rfl T.z_range (pa_cons (pe_callB (call_min2Z rfl) (by rfl) T.z_min (by decide +kernel) (pa_cons (pv 2) (pa_cons (pv 1) pa_nil))) pa_nil)) (pg_name (i := 4) sc_l_places.nd rfl (by first | exact Or.inl rfl | exact Or.inr rfl)) (pss_cons (ps_set (i := 5) sc_l_places.nd rfl (by first | exact Or.inl rfl | exact Or.inr rfl) (pe_callB (call_max2Z rfl) (by rfl) T.z_max (by decide +kernel) (pa_cons pe_int (pa_cons (pe_op op_sub (pe_callZ (ok_l_next T) (hr.mono (by decide)) (by rfl) T.g_l_next T.F_l_next.kp T.b_l_next pass0 (pa_cons (pv 0) (pa_cons pe_int pa_nil))) pe_int) pa_nil))))
      (pss_one (ps_expr (pe_bmZ (K := K) rfl PySem.F.plainAttrs_list PySem.F.slot_list_append PySem.F.type_list_append mt_append (pv 3) (pa_cons (pe_ix (ix_Y (K := K) rfl (hu_of hr)) (pe_lst (pa_cons (pe_callZ (ok_l_next T) (hr.mono (by decide)) (by rfl) T.g_l_next T.F_l_next.kp T.b_l_next pass0 (pa_cons (pv 0) (pa_cons pe_int pa_nil))) (pa_cons (pe_callZ (ok_l_next T) (hr.mono (by decide)) (by rfl) T.g_l_next T.F_l_next.kp T.b_l_next pass0 (pa_cons (pv 0) (pa_cons pe_int pa_nil))) (pa_cons pe_int (pa_cons pe_int pa_nil))))) (pv 5) (fun _ _ => rfl)) pa_nil))))))
      (pss_one (ps_ret (pv 3)))))),
    fn_run (np := 2) (N := ["_law_draw_here", "_law_most", "_law_many", "_law_found", "_law_k", "_law_way"]) (body := b_l_places) (by unfold b_l_places; exact (sv_seq (sv_asg (ei_op j_ixY (ei_lst (ev_cons (ei_op j_add (ei_c cr_int) (ei_callN (ev_cons ei_var (ev_cons (ei_c cr_int) ev_nil)))) (ev_cons (ei_c cr_int) (ev_cons (ei_c cr_int) (ev_cons (ei_c cr_int) ev_nil))))) (ei_cb jb_max2 (ea_cons (ei_c cr_int) (ea_cons (ei_op (j_I0 fun _ _ => cr_int) (ei_callN (ev_cons ei_var (ev_cons (ei_c cr_int) ev_nil))) (ei_c cr_int)) ea_nil)))))
      (sv_seq (sv_asg (ei_lst ev_nil))
      (sv_seq (sv_for (jw_rng1 (ea_cons (ei_cb jb_min2 (ea_cons ei_var (ea_cons ei_var ea_nil))) ea_nil)) sg_name (sv_seq (sv_asg (ei_cb jb_max2 (ea_cons (ei_c cr_int) (ea_cons (ei_op (j_I0 fun _ _ => cr_int) (ei_callN (ev_cons ei_var (ev_cons (ei_c cr_int) ev_nil))) (ei_c cr_int)) ea_nil))))
      (sv_drop (ei_bm jm_app ei_var (ev_cons (ei_op j_ixY (ei_lst (ev_cons (ei_callN (ev_cons ei_var (ev_cons (ei_c cr_int) ev_nil))) (ev_cons (ei_callN (ev_cons ei_var (ev_cons (ei_c cr_int) ev_nil))) (ev_cons (ei_c cr_int) (ev_cons (ei_c cr_int) ev_nil))))) ei_var) ev_nil)))))
      (sv_ret ei_var))))) h⟩)
@[irreducible] noncomputable def b_l_entries : Ms :=
  (mSeq (mAsg 2 (mLst vNil))
  (mSeq (mAsg 3 (mUn fNeg (mC (.int 1))))
  (mSeq (mFor (mRng1 (aCons (mOp fIxY (mLst (vCons (mCallN m_l_next (vCons (mName 0) (vCons (mC (.int 5)) vNil))) (vCons (mC (.int 30)) (vCons (mCallN m_l_next (vCons (mName 0) (vCons (mC (.int 31)) vNil))) vNil)))) (mCB (fI2 max) (aCons (mC (.int 0)) (aCons (mOp (fI0 fun i j => .int (i - j)) (mCallN m_l_next (vCons (mName 0) (vCons (mC (.int 8)) vNil))) (mC (.int 5))) aNil)))) aNil)) (tgN 4) (mSeq (mAsg 3 (mOp fAdd (mOp fAdd (mName 3) (mC (.int 1))) (mCallN m_l_next (vCons (mName 0) (vCons (mOp fIxY (mLst (vCons (mC (.int 1)) (vCons (mC (.int 3)) (vCons (mC (.int 8)) vNil)))) (mCallN m_l_next (vCons (mName 0) (vCons (mC (.int 3)) vNil)))) vNil)))))
  (mSeq (mAsg 5 (mCallN m_l_name (vCons (mName 0) vNil)))
  (mSeq (mAsg 6 (mCallN m_l_places (vCons (mName 0) (vCons (mName 1) vNil))))
  (mSeq (mAsg 7 (mCallN m_l_next (vCons (mName 0) (vCons (mOp fAdd (mOp fMul (mC (.int 255)) (mCB fLen (aCons (mName 6) aNil))) (mC (.int 1))) vNil))))
  (mSeq (mAsg 7 (mOp fIxY (mLst (vCons (mName 7) (vCons (mC (.int 0)) (vCons (mOp fMul (mC (.int 255)) (mCB fLen (aCons (mName 6) aNil))) vNil)))) (mCB (fI2 max) (aCons (mC (.int 0)) (aCons (mOp (fI0 fun i j => .int (i - j)) (mCallN m_l_next (vCons (mName 0) (vCons (mC (.int 8)) vNil))) (mC (.int 5))) aNil)))))
  (mIfS (mAnd (mBl (mOp (fI0 fun i j => .bl (decide (i < j))) (mName 3) (mC (.int 255)))) (mBl (mOp fNin (mName 5) (mLcO 2 [8] (tgN 8) mYes (mOp fIxY (mName 8) (mC (.int 1))))))) (mSeq (mDrop (mBM fApp (mName 2) (vCons (mTup (vCons (mName 3) (vCons (mName 5) (vCons (mName 7) (vCons (mName 6) vNil))))) vNil)))
  (mAsg 1 (mCB (fI2 max) (aCons (mC (.int 1)) (aCons (mOp (fI0 fun i j => .int (i - j)) (mName 1) (mCB fLen (aCons (mName 6) aNil))) aNil))))) mNext)))))))
  (mRet (mName 2)))))
noncomputable def m_l_entries : Mf := mFn 2 9 b_l_entries
theorem ok_l_entries {P : Program} {w : World} {K : PySem.W.Frag} {mg : Str → Option Value} {base : Heap} (T : Tx K mg) : FnOk P w K mg base CX0 3 T.a_l_entries T.d_l_entries ["_law_draw_here", "_law_left"] (spM K (ctT T) m_l_entries) :=
  T.F_l_entries.ok sc_l_entries (fun vs H Q E h => sp_len h) (fun cdv A outer s H vs Q E hr h => ⟨_, (pss_cons (ps_set (i := 2) sc_l_entries.nd rfl (by first | exact Or.inl rfl | exact Or.inr rfl) (pe_lst pa_nil))
      (pss_cons (ps_set (i := 3) sc_l_entries.nd rfl (by first | exact Or.inl rfl | exact Or.inr rfl) (pe_un un_neg pe_int))
      (pss_cons (ps_for PassesOwn.never rfl (pi_range1 rfl T.z_range (pa_cons (pe_ix (ix_Y (K := K) rfl (hu_of hr)) (pe_lst (pa_cons (pe_callZ (ok_l_next T) (hr.mono (by decide)) (by rfl) T.g_l_next T.F_l_next.kp T.b_l_next pass0 (pa_cons (pv 0) (pa_cons pe_int pa_nil))) (pa_cons pe_int (pa_cons (pe_callZ (ok_l_next T) (hr.mono (by decide)) (by rfl) T.g_l_next T.F_l_next.kp T.b_l_next pass0 (pa_cons (pv 0) (pa_cons pe_int pa_nil))) pa_nil)))) (pe_callB (call_max2Z rfl) (by rfl) T.z_max (by decide +kernel) (pa_cons pe_int (pa_cons (pe_op op_sub (pe_callZ (ok_l_next T) (hr.mono (by decide)) (by rfl) T.g_l_next T.F_l_next.kp T.b_l_next pass0 (pa_cons (pv 0) (pa_cons pe_int pa_nil))) pe_int) pa_nil))) (fun _ _ => rfl)) pa_nil)) (pg_name (i := 4) sc_l_entries.nd rfl (by first | exact Or.inl rfl | exact Or.inr rfl)) (pss_cons (ps_set (i := 3) sc_l_entries.nd rfl (by first | exact Or.inl rfl | exact Or.inr rfl) (pe_op (op_addZ (K := K) rfl) (pe_op (op_addZ (K := K) rfl) (pv 3) pe_int) (pe_callZ (ok_l_next T) (hr.mono (by decide)) (by rfl) T.g_l_next T.F_l_next.kp T.b_l_next pass0 (pa_cons (pv 0) (pa_cons (pe_ix (ix_Y (K := K) rfl (hu_of hr)) (pe_lst (pa_cons pe_int (pa_cons pe_int (pa_cons pe_int pa_nil)))) (pe_callZ (ok_l_next T) (hr.mono (by decide)) (by rfl) T.g_l_next T.F_l_next.kp T.b_l_next pass0 (pa_cons (pv 0) (pa_cons pe_int pa_nil))) (fun _ _ => rfl)) pa_nil)))))
      (pss_cons (ps_set (i := 5) sc_l_entries.nd rfl (by first | exact Or.inl rfl | exact Or.inr rfl) (pe_callZ (ok_l_name T) (hr.mono (by decide)) (by rfl) T.g_l_name T.F_l_name.kp T.b_l_name pass0 (pa_cons (pv 0) pa_nil)))
      (pss_cons (ps_set (i := 6) sc_l_entries.nd rfl (by first | exact Or.inl rfl | exact Or.inr rfl) (pe_callZ (ok_l_places T) (hr.mono (by decide)) (by rfl) T.g_l_places T.F_l_places.kp T.b_l_places pass0 (pa_cons (pv 0) (pa_cons (pv 1) pa_nil))))
      (pss_cons (ps_set (i := 7) sc_l_entries.nd rfl (by first | exact Or.inl rfl | exact Or.inr rfl) (pe_callZ (ok_l_next T) (hr.mono (by decide)) (by rfl) T.g_l_next T.F_l_next.kp T.b_l_next pass0 (pa_cons (pv 0) (pa_cons (pe_op (op_addZ (K := K) rfl) (pe_op op_mulZ pe_int (pe_callB (call_lenY (K := K) rfl) (by rfl) T.z_len PySem.boot_len (pa_cons (pv 6) pa_nil))) pe_int) pa_nil))))
      (pss_cons (ps_set (i := 7) sc_l_entries.nd rfl (by first | exact Or.inl rfl | exact Or.inr rfl) (pe_ix (ix_Y (K := K) rfl (hu_of hr)) (pe_lst (pa_cons (pv 7) (pa_cons pe_int (pa_cons (pe_op op_mulZ pe_int (pe_callB (call_lenY (K := K) rfl) (by rfl) T.z_len PySem.boot_len (pa_cons (pv 6) pa_nil))) pa_nil)))) (pe_callB (call_max2Z rfl) (by rfl) T.z_max (by decide +kernel) (pa_cons pe_int (pa_cons (pe_op op_sub (pe_callZ (ok_l_next T) (hr.mono (by decide)) (by rfl) T.g_l_next T.F_l_next.kp T.b_l_next pass0 (pa_cons (pv 0) (pa_cons pe_int pa_nil))) pe_int) pa_nil))) (fun _ _ => rfl)))
      (pss_one (ps_if (PW.pt (pw_and (pt_cmpR op_lt (pv 3) pe_int (nomark _)) (pw_and1 (pt_cmpR (op_ninY (K := K) rfl (u65 hr)) (pv 5) (pe_lc (own := [("_law_entry_here", 8)]) rfl sc_l_entries.nd (pi_listZ (K := K) rfl (pv 2)) (blkOk_by (N := ["_law_draw_here", "_law_left", "_law_entries_here", "_law_text", "_law_k", "_law_name_here", "_law_places_here", "_law_length", "_law_entry_here"]) (sc := defScope s_l_entries) (by decide +kernel)) (fun _ _ _ _ _ => (pg_name (i := 8) sc_l_entries.nd rfl (by first | exact Or.inl rfl | exact Or.inr rfl))) (fun _ _ _ _ _ => pts_nil) (fun _ _ _ _ _ => (pe_ix (ix_Y (K := K) rfl (hu_of hr)) (pv 8) pe_int (fun _ _ => rfl)))) (by rfl))))) (pss_cons (ps_expr (pe_bmZ (K := K) rfl PySem.F.plainAttrs_list PySem.F.slot_list_append PySem.F.type_list_append mt_append (pv 2) (pa_cons (pe_tup (pa_cons (pv 3) (pa_cons (pv 5) (pa_cons (pv 7) (pa_cons (pv 6) pa_nil))))) pa_nil)))
      (pss_one (ps_set (i := 1) sc_l_entries.nd rfl (by first | exact Or.inl rfl | exact Or.inr rfl) (pe_callB (call_max2Z rfl) (by rfl) T.z_max (by decide +kernel) (pa_cons pe_int (pa_cons (pe_op op_sub (pv 1) (pe_callB (call_lenY (K := K) rfl) (by rfl) T.z_len PySem.boot_len (pa_cons (pv 6) pa_nil))) pa_nil)))))) pss_nil))))))))
      (pss_one (ps_ret (pv 2)))))),
    fn_run (np := 2) (N := ["_law_draw_here", "_law_left", "_law_entries_here", "_law_text", "_law_k", "_law_name_here", "_law_places_here", "_law_length", "_law_entry_here"]) (body := b_l_entries) (by unfold b_l_entries; exact (sv_seq (sv_asg (ei_lst ev_nil))
      (sv_seq (sv_asg (ei_un j_neg (ei_c cr_int)))
      (sv_seq (sv_for (jw_rng1 (ea_cons (ei_op j_ixY (ei_lst (ev_cons (ei_callN (ev_cons ei_var (ev_cons (ei_c cr_int) ev_nil))) (ev_cons (ei_c cr_int) (ev_cons (ei_callN (ev_cons ei_var (ev_cons (ei_c cr_int) ev_nil))) ev_nil)))) (ei_cb jb_max2 (ea_cons (ei_c cr_int) (ea_cons (ei_op (j_I0 fun _ _ => cr_int) (ei_callN (ev_cons ei_var (ev_cons (ei_c cr_int) ev_nil))) (ei_c cr_int)) ea_nil)))) ea_nil)) sg_name (sv_seq (sv_asg (ei_op j_add (ei_op j_add ei_var (ei_c cr_int)) (ei_callN (ev_cons ei_var (ev_cons (ei_op j_ixY (ei_lst (ev_cons (ei_c cr_int) (ev_cons (ei_c cr_int) (ev_cons (ei_c cr_int) ev_nil)))) (ei_callN (ev_cons ei_var (ev_cons (ei_c cr_int) ev_nil)))) ev_nil)))))
      (sv_seq (sv_asg (ei_callN (ev_cons ei_var ev_nil)))
      (sv_seq (sv_asg (ei_callN (ev_cons ei_var (ev_cons ei_var ev_nil))))
      (sv_seq (sv_asg (ei_callN (ev_cons ei_var (ev_cons (ei_op j_add (ei_op j_mul (ei_c cr_int) (ei_cb jb_len (ea_cons ei_var ea_nil))) (ei_c cr_int)) ev_nil))))
      (sv_seq (sv_asg (ei_op j_ixY (ei_lst (ev_cons ei_var (ev_cons (ei_c cr_int) (ev_cons (ei_op j_mul (ei_c cr_int) (ei_cb jb_len (ea_cons ei_var ea_nil))) ev_nil)))) (ei_cb jb_max2 (ea_cons (ei_c cr_int) (ea_cons (ei_op (j_I0 fun _ _ => cr_int) (ei_callN (ev_cons ei_var (ev_cons (ei_c cr_int) ev_nil))) (ei_c cr_int)) ea_nil)))))
      (sv_if (et_and (et_tst (ei_op (j_I0 fun _ _ => cr_bl) ei_var (ei_c cr_int))) (et_tst (ei_op j_nin ei_var (ei_lcO (i := 2) (ws := [8]) sg_name (by decide) et_yes (ei_op j_ixY ei_var (ei_c cr_int)))))) (sv_seq (sv_drop (ei_bm jm_app ei_var (ev_cons (ei_tup (ev_cons ei_var (ev_cons ei_var (ev_cons ei_var (ev_cons ei_var ev_nil))))) ev_nil)))
      (sv_asg (ei_cb jb_max2 (ea_cons (ei_c cr_int) (ea_cons (ei_op (j_I0 fun _ _ => cr_int) ei_var (ei_cb jb_len (ea_cons ei_var ea_nil))) ea_nil))))) sv_next)))))))
      (sv_ret ei_var))))) h⟩)
@[irreducible] noncomputable def b_l_name_bytes : Ms :=
  (mSeq (mAsg 1 (mC (.str (Str.ofString "0123456789abcdefghijklmnopqrstuvwxyz"))))
  (mSeq (mAsg 2 (mLst vNil))
  (mSeq (mFor (mWS (mName 0)) (tgN 3) (mIfS (mBl (mOp fIn (mName 3) (mC (.str (Str.ofString "-."))))) (mDrop (mBM fApp (mName 2) (vCons (mOp fIxY (mLst (vCons (mC (.int 45)) (vCons (mC (.int 46)) vNil))) (mSIdx (mC (.str (Str.ofString "-."))) (mName 3))) vNil))) (mIfS (mBl (mOp fIn (mName 3) (mC (.str (Str.ofString "0123456789"))))) (mDrop (mBM fApp (mName 2) (vCons (mOp fAdd (mC (.int 48)) (mSIdx (mName 1) (mName 3))) vNil))) (mDrop (mBM fApp (mName 2) (vCons (mOp fAdd (mC (.int 87)) (mSIdx (mName 1) (mName 3))) vNil))))))
  (mRet (mName 2)))))
noncomputable def m_l_name_bytes : Mf := mFn 1 4 b_l_name_bytes
theorem ok_l_name_bytes {P : Program} {w : World} {K : PySem.W.Frag} {mg : Str → Option Value} {base : Heap} (T : Tx K mg) : FnOk P w K mg base CX0 1 T.a_l_name_bytes T.d_l_name_bytes ["_law_name_here"] (spM K (ctT T) m_l_name_bytes) :=
  T.F_l_name_bytes.ok sc_l_name_bytes (fun vs H Q E h => sp_len h) (fun cdv A outer s H vs Q E hr h => ⟨_, (pss_cons (ps_set (i := 1) sc_l_name_bytes.nd rfl (by first | exact Or.inl rfl | exact Or.inr rfl) pe_str)
      (pss_cons (ps_set (i := 2) sc_l_name_bytes.nd rfl (by first | exact Or.inl rfl | exact Or.inr rfl) (pe_lst pa_nil))
      (pss_cons (ps_for PassesOwn.never rfl (pi_str (pv 0)) (pg_name (i := 3) sc_l_name_bytes.nd rfl (by first | exact Or.inl rfl | exact Or.inr rfl)) (pss_one (ps_if (pt_cmpR (op_inY (K := K) rfl (u65 hr)) (pv 3) pe_str (by rfl)) (pss_one (ps_expr (pe_bmZ (K := K) rfl PySem.F.plainAttrs_list PySem.F.slot_list_append PySem.F.type_list_append mt_append (pv 2) (pa_cons (pe_ix (ix_Y (K := K) rfl (hu_of hr)) (pe_lst (pa_cons pe_int (pa_cons pe_int pa_nil))) (pe_sidx pe_str (pv 3)) (fun _ _ => rfl)) pa_nil)))) (pss_one (ps_if (pt_cmpR (op_inY (K := K) rfl (u65 hr)) (pv 3) pe_str (by rfl)) (pss_one (ps_expr (pe_bmZ (K := K) rfl PySem.F.plainAttrs_list PySem.F.slot_list_append PySem.F.type_list_append mt_append (pv 2) (pa_cons (pe_op (op_addZ (K := K) rfl) pe_int (pe_sidx (pv 1) (pv 3))) pa_nil)))) (pss_one (ps_expr (pe_bmZ (K := K) rfl PySem.F.plainAttrs_list PySem.F.slot_list_append PySem.F.type_list_append mt_append (pv 2) (pa_cons (pe_op (op_addZ (K := K) rfl) pe_int (pe_sidx (pv 1) (pv 3))) pa_nil)))))))))
      (pss_one (ps_ret (pv 2)))))),
    fn_run (np := 1) (N := ["_law_name_here", "_law_signs", "_law_found", "_law_sign"]) (body := b_l_name_bytes) (by unfold b_l_name_bytes; exact (sv_seq (sv_asg (ei_c cr_str))
      (sv_seq (sv_asg (ei_lst ev_nil))
      (sv_seq (sv_for (jw_str ei_var) sg_name (sv_if (et_tst (ei_op j_in ei_var (ei_c cr_str))) (sv_drop (ei_bm jm_app ei_var (ev_cons (ei_op j_ixY (ei_lst (ev_cons (ei_c cr_int) (ev_cons (ei_c cr_int) ev_nil))) (ei_sidx (ei_c cr_str) ei_var)) ev_nil))) (sv_if (et_tst (ei_op j_in ei_var (ei_c cr_str))) (sv_drop (ei_bm jm_app ei_var (ev_cons (ei_op j_add (ei_c cr_int) (ei_sidx ei_var ei_var)) ev_nil))) (sv_drop (ei_bm jm_app ei_var (ev_cons (ei_op j_add (ei_c cr_int) (ei_sidx ei_var ei_var)) ev_nil))))))
      (sv_ret ei_var))))) h⟩)
@[irreducible] noncomputable def b_l_entry : Ms :=
  (mSeq (mAsgT (tgT 4 (tgCons (tgN 1) (tgCons (tgN 2) (tgCons (tgN 3) (tgCons (tgN 4) tgNil))))) (mName 0))
  (mSeq (mAsg 5 (mOp fAdd (mOp fAdd (mLst (vCons (mName 1) (vCons (mCB fLen (aCons (mName 2) aNil)) vNil))) (mCallN m_l_name_bytes (vCons (mName 2) vNil))) (mLst (vCons (mCB fLen (aCons (mName 4) aNil)) (vCons (mOp (fI CDiv fun i j => .int (i / j)) (mName 3) (mC (.int 256))) (vCons (mOp (fI (fun _ j => 0 < j) fun i j => .int (i % j)) (mName 3) (mC (.int 256))) vNil))))))
  (mSeq (mFor (mWL (mName 4)) (tgN 6) (mAsg 5 (mOp fAdd (mName 5) (mLst (vCons (mOp (fI CDiv fun i j => .int (i / j)) (mName 6) (mC (.int 65536))) (vCons (mOp (fI (fun _ j => 0 < j) fun i j => .int (i % j)) (mOp (fI CDiv fun i j => .int (i / j)) (mName 6) (mC (.int 256))) (mC (.int 256))) (vCons (mOp (fI (fun _ j => 0 < j) fun i j => .int (i % j)) (mName 6) (mC (.int 256))) vNil)))))))
  (mRet (mName 5)))))
noncomputable def m_l_entry : Mf := mFn 1 7 b_l_entry
theorem ok_l_entry {P : Program} {w : World} {K : PySem.W.Frag} {mg : Str → Option Value} {base : Heap} (T : Tx K mg) : FnOk P w K mg base CX0 2 T.a_l_entry T.d_l_entry ["_law_entry_here"] (spM K (ctT T) m_l_entry) :=
  T.F_l_entry.ok sc_l_entry (fun vs H Q E h => sp_len h) (fun cdv A outer s H vs Q E hr h => ⟨_, (pss_cons (ps_asg (pv 0) (pg_tupZ (K := K) (n := 4) rfl rfl (pgs_cons (pg_name (i := 1) sc_l_entry.nd rfl (by first | exact Or.inl rfl | exact Or.inr rfl)) (pgs_cons (pg_name (i := 2) sc_l_entry.nd rfl (by first | exact Or.inl rfl | exact Or.inr rfl)) (pgs_cons (pg_name (i := 3) sc_l_entry.nd rfl (by first | exact Or.inl rfl | exact Or.inr rfl)) (pgs_cons (pg_name (i := 4) sc_l_entry.nd rfl (by first | exact Or.inl rfl | exact Or.inr rfl)) pgs_nil))))))
      (pss_cons (ps_set (i := 5) sc_l_entry.nd rfl (by first | exact Or.inl rfl | exact Or.inr rfl) (pe_op (op_addZ (K := K) rfl) (pe_op (op_addZ (K := K) rfl) (pe_lst (pa_cons (pv 1) (pa_cons (pe_callB (call_lenY (K := K) rfl) (by rfl) T.z_len PySem.boot_len (pa_cons (pv 2) pa_nil)) pa_nil))) (pe_callZ (ok_l_name_bytes T) (hr.mono (by decide)) (by rfl) T.g_l_name_bytes T.F_l_name_bytes.kp T.b_l_name_bytes pass0 (pa_cons (pv 2) pa_nil))) (pe_lst (pa_cons (pe_callB (call_lenY (K := K) rfl) (by rfl) T.z_len PySem.boot_len (pa_cons (pv 4) pa_nil)) (pa_cons (pe_op op_fdiv (pv 3) pe_int) (pa_cons (pe_op op_mod (pv 3) pe_int) pa_nil))))))
      (pss_cons (ps_for PassesOwn.never rfl (pi_listZ (K := K) rfl (pv 4)) (pg_name (i := 6) sc_l_entry.nd rfl (by first | exact Or.inl rfl | exact Or.inr rfl)) (pss_one (ps_set (i := 5) sc_l_entry.nd rfl (by first | exact Or.inl rfl | exact Or.inr rfl) (pe_op (op_addZ (K := K) rfl) (pv 5) (pe_lst (pa_cons (pe_op op_fdiv (pv 6) pe_int) (pa_cons (pe_op op_mod (pe_op op_fdiv (pv 6) pe_int) pe_int) (pa_cons (pe_op op_mod (pv 6) pe_int) pa_nil))))))))
      (pss_one (ps_ret (pv 5)))))),
    fn_run (np := 1) (N := ["_law_entry_here", "_law_text", "_law_name_here", "_law_length", "_law_places_here", "_law_row", "_law_place"]) (body := b_l_entry) (by unfold b_l_entry; exact (sv_seq (sv_asgT (sg_tup (sgs_cons sg_name (sgs_cons sg_name (sgs_cons sg_name (sgs_cons sg_name sgs_nil))))) ei_var)
      (sv_seq (sv_asg (ei_op j_add (ei_op j_add (ei_lst (ev_cons ei_var (ev_cons (ei_cb jb_len (ea_cons ei_var ea_nil)) ev_nil))) (ei_callN (ev_cons ei_var ev_nil))) (ei_lst (ev_cons (ei_cb jb_len (ea_cons ei_var ea_nil)) (ev_cons (ei_op (j_I fun _ _ => cr_int) ei_var (ei_c cr_int)) (ev_cons (ei_op (j_I fun _ _ => cr_int) ei_var (ei_c cr_int)) ev_nil))))))
      (sv_seq (sv_for (jw_list ei_var) sg_name (sv_asg (ei_op j_add ei_var (ei_lst (ev_cons (ei_op (j_I fun _ _ => cr_int) ei_var (ei_c cr_int)) (ev_cons (ei_op (j_I fun _ _ => cr_int) (ei_op (j_I fun _ _ => cr_int) ei_var (ei_c cr_int)) (ei_c cr_int)) (ev_cons (ei_op (j_I fun _ _ => cr_int) ei_var (ei_c cr_int)) ev_nil)))))))
      (sv_ret ei_var))))) h⟩)
@[irreducible] noncomputable def b_l_spoilt_rows : Ms :=
  (mSeq (mAsg 3 (mCallN m_l_next (vCons (mName 0) (vCons (mC (.int 12)) vNil))))
  (mSeq (mAsg 4 (mCallN m_l_next (vCons (mName 0) (vCons (mCB fLen (aCons (mName 2) aNil)) vNil))))
  (mSeq (mIfS (mAnd (mBl (mOp fEq (mName 3) (mC (.int 0)))) (mBl (mOp (fI0 fun i j => .bl (decide (j < i))) (mCB fLen (aCons (mName 2) aNil)) (mC (.int 1))))) (mSeq (mAsg 4 (mCallN m_l_next (vCons (mName 0) (vCons (mOp (fI0 fun i j => .int (i - j)) (mCB fLen (aCons (mName 2) aNil)) (mC (.int 1))) vNil))))
  (mSeq (mAsgS (mName 2) (mName 4) (mOp fIxY (mName 2) (mOp fAdd (mName 4) (mC (.int 1)))))
  (mAsgS (mName 2) (mOp fAdd (mName 4) (mC (.int 1))) (mCallN m_l_entry (vCons (mOp fIxY (mName 1) (mName 4)) vNil))))) mNext)
  (mSeq (mIfS (mBl (mOp fEq (mName 3) (mC (.int 1)))) (mSeq (mAsg 5 (mTup (vCons (mOp fIxY (mOp fIxY (mName 1) (mName 4)) (mC (.int 0))) (vCons (mC (.str (Str.ofString "-.-.-"))) (vCons (mOp fIxY (mOp fIxY (mName 1) (mName 4)) (mC (.int 2))) (vCons (mOp fIxY (mOp fIxY (mName 1) (mName 4)) (mC (.int 3))) vNil))))))
  (mDrop (mBM fIns (mName 2) (vCons (mOp fAdd (mName 4) (mC (.int 1))) (vCons (mOp fIxY (mLst (vCons (mCallN m_l_entry (vCons (mName 5) vNil)) (vCons (mCB fList (aCons (mOp fIxY (mName 2) (mName 4)) aNil)) vNil))) (mCallN m_l_next (vCons (mName 0) (vCons (mC (.int 2)) vNil)))) vNil))))) mNext)
  (mSeq (mIfS (mBl (mOp fEq (mName 3) (mC (.int 2)))) (mAsgS (mOp fIxY (mName 2) (mName 4)) (mC (.int 0)) (mC (.int 255))) mNext)
  (mSeq (mIfS (mBl (mOp fEq (mName 3) (mC (.int 3)))) (mAsgS (mOp fIxY (mName 2) (mName 4)) (mC (.int 1)) (mOp fIxY (mLst (vCons (mC (.int 0)) (vCons (mC (.int 13)) (vCons (mC (.int 255)) (vCons (mOp fAdd (mOp fIxY (mOp fIxY (mName 2) (mName 4)) (mC (.int 1))) (mC (.int 1))) vNil))))) (mCallN m_l_next (vCons (mName 0) (vCons (mC (.int 4)) vNil))))) mNext)
  (mSeq (mIfS (mBl (mOp fEq (mName 3) (mC (.int 4)))) (mSeq (mAsg 6 (mOp fAdd (mC (.int 2)) (mCallN m_l_next (vCons (mName 0) (vCons (mOp fIxY (mOp fIxY (mName 2) (mName 4)) (mC (.int 1))) vNil)))))
  (mAsgS (mOp fIxY (mName 2) (mName 4)) (mName 6) (mOp fIxY (mLst (vCons (mC (.int 44)) (vCons (mC (.int 47)) (vCons (mC (.int 58)) (vCons (mC (.int 65)) (vCons (mC (.int 96)) (vCons (mC (.int 123)) (vCons (mC (.int 32)) (vCons (mC (.int 0)) (vCons (mC (.int 173)) vNil)))))))))) (mCallN m_l_next (vCons (mName 0) (vCons (mC (.int 9)) vNil)))))) mNext)
  (mSeq (mIfS (mAnd (mBl (mOp fEq (mName 3) (mC (.int 5)))) (mBl (mOp (fI0 fun i j => .bl (decide (j < i))) (mName 4) (mC (.int 0))))) (mSeq (mAsg 7 (mTup (vCons (mOp fIxY (mOp fIxY (mName 1) (mName 4)) (mC (.int 0))) (vCons (mOp fIxY (mOp fIxY (mName 1) (mCallN m_l_next (vCons (mName 0) (vCons (mName 4) vNil)))) (mC (.int 1))) (vCons (mOp fIxY (mOp fIxY (mName 1) (mName 4)) (mC (.int 2))) (vCons (mOp fIxY (mOp fIxY (mName 1) (mName 4)) (mC (.int 3))) vNil))))))
  (mAsgS (mName 2) (mName 4) (mCallN m_l_entry (vCons (mName 7) vNil)))) mNext)
  (mSeq (mIfS (mBl (mOp fEq (mName 3) (mC (.int 6)))) (mAsgS (mName 2) (mName 4) (mCallN m_l_entry (vCons (mTup (vCons (mOp fIxY (mOp fIxY (mName 1) (mName 4)) (mC (.int 0))) (vCons (mOp fIxY (mOp fIxY (mName 1) (mName 4)) (mC (.int 1))) (vCons (mC (.int 0)) (vCons (mLst vNil) vNil))))) vNil))) mNext)
  (mSeq (mIfS (mBl (mOp fEq (mName 3) (mC (.int 7)))) (mSeq (mAsg 8 (mOp fIxY (mOp fIxY (mName 1) (mName 4)) (mC (.int 3))))
  (mAsgS (mName 2) (mName 4) (mCallN m_l_entry (vCons (mTup (vCons (mOp fIxY (mOp fIxY (mName 1) (mName 4)) (mC (.int 0))) (vCons (mOp fIxY (mOp fIxY (mName 1) (mName 4)) (mC (.int 1))) (vCons (mOp fAdd (mOp fMul (mC (.int 255)) (mCB fLen (aCons (mName 8) aNil))) (mC (.int 1))) (vCons (mName 8) vNil))))) vNil)))) mNext)
  (mRet (mName 3))))))))))))
noncomputable def m_l_spoilt_rows : Mf := mFn 3 9 b_l_spoilt_rows
theorem ok_l_spoilt_rows {P : Program} {w : World} {K : PySem.W.Frag} {mg : Str → Option Value} {base : Heap} (T : Tx K mg) : FnOk P w K mg base CX0 3 T.a_l_spoilt_rows T.d_l_spoilt_rows ["_law_draw_here", "_law_entries_here", "_law_rows"] (spM K (ctT T) m_l_spoilt_rows) :=
  T.F_l_spoilt_rows.ok sc_l_spoilt_rows (fun vs H Q E h => sp_len h) (fun cdv A outer s H vs Q E hr h => ⟨_, (pss_cons (ps_set (i := 3) sc_l_spoilt_rows.nd rfl (by first | exact Or.inl rfl | exact Or.inr rfl) (pe_callZ (ok_l_next T) (hr.mono (by decide)) (by rfl) T.g_l_next T.F_l_next.kp T.b_l_next pass0 (pa_cons (pv 0) (pa_cons pe_int pa_nil))))
      (pss_cons (ps_set (i := 4) sc_l_spoilt_rows.nd rfl (by first | exact Or.inl rfl | exact Or.inr rfl) (pe_callZ (ok_l_next T) (hr.mono (by decide)) (by rfl) T.g_l_next T.F_l_next.kp T.b_l_next pass0 (pa_cons (pv 0) (pa_cons (pe_callB (call_lenY (K := K) rfl) (by rfl) T.z_len PySem.boot_len (pa_cons (pv 2) pa_nil)) pa_nil))))
      (pss_cons (ps_if (PW.pt (pw_and (pt_cmpR (op_eqZ (K := K) rfl hr.units) (pv 3) pe_int (nomark _)) (pw_and1 (pt_cmpR op_gt (pe_callB (call_lenY (K := K) rfl) (by rfl) T.z_len PySem.boot_len (pa_cons (pv 2) pa_nil)) pe_int (nomark _))))) (pss_cons (ps_set (i := 4) sc_l_spoilt_rows.nd rfl (by first | exact Or.inl rfl | exact Or.inr rfl) (pe_callZ (ok_l_next T) (hr.mono (by decide)) (by rfl) T.g_l_next T.F_l_next.kp T.b_l_next pass0 (pa_cons (pv 0) (pa_cons (pe_op op_sub (pe_callB (call_lenY (K := K) rfl) (by rfl) T.z_len PySem.boot_len (pa_cons (pv 2) pa_nil)) pe_int) pa_nil))))
      (pss_cons (ps_asg (pe_ix (ix_Y (K := K) rfl (hu_of hr)) (pv 2) (pe_op (op_addZ (K := K) rfl) (pv 4) pe_int) (fun _ _ => rfl)) (pg_sub (pv 2) (pv 4) (set_Y (hu_of hr))))
      (pss_one (ps_asg (pe_callZ (ok_l_entry T) (hr.mono (by decide)) (by rfl) T.g_l_entry T.F_l_entry.kp T.b_l_entry pass0 (pa_cons (pe_ix (ix_Y (K := K) rfl (hu_of hr)) (pv 1) (pv 4) (fun _ _ => rfl)) pa_nil)) (pg_sub (pv 2) (pe_op (op_addZ (K := K) rfl) (pv 4) pe_int) (set_Y (hu_of hr))))))) pss_nil)
      (pss_cons (ps_if (pt_cmpR (op_eqZ (K := K) rfl hr.units) (pv 3) pe_int (nomark _)) (pss_cons (ps_set (i := 5) sc_l_spoilt_rows.nd rfl (by first | exact Or.inl rfl | exact Or.inr rfl) (pe_tup (pa_cons (pe_ix (ix_Y (K := K) rfl (hu_of hr)) (pe_ix (ix_Y (K := K) rfl (hu_of hr)) (pv 1) (pv 4) (fun _ _ => rfl)) pe_int (fun _ _ => rfl)) (pa_cons pe_str (pa_cons (pe_ix (ix_Y (K := K) rfl (hu_of hr)) (pe_ix (ix_Y (K := K) rfl (hu_of hr)) (pv 1) (pv 4) (fun _ _ => rfl)) pe_int (fun _ _ => rfl)) (pa_cons (pe_ix (ix_Y (K := K) rfl (hu_of hr)) (pe_ix (ix_Y (K := K) rfl (hu_of hr)) (pv 1) (pv 4) (fun _ _ => rfl)) pe_int (fun _ _ => rfl)) pa_nil))))))
      (pss_one (ps_expr (pe_bmZ (K := K) rfl PySem.F.plainAttrs_list PySem.F.slot_list_insert PySem.F.type_list_insert mt_ins (pv 2) (pa_cons (pe_op (op_addZ (K := K) rfl) (pv 4) pe_int) (pa_cons (pe_ix (ix_Y (K := K) rfl (hu_of hr)) (pe_lst (pa_cons (pe_callZ (ok_l_entry T) (hr.mono (by decide)) (by rfl) T.g_l_entry T.F_l_entry.kp T.b_l_entry pass0 (pa_cons (pv 5) pa_nil)) (pa_cons (pe_callTy (call_listZ (K := K) rfl) (by rfl) T.z_list (by decide +kernel) (pa_cons (pe_ix (ix_Y (K := K) rfl (hu_of hr)) (pv 2) (pv 4) (fun _ _ => rfl)) pa_nil)) pa_nil))) (pe_callZ (ok_l_next T) (hr.mono (by decide)) (by rfl) T.g_l_next T.F_l_next.kp T.b_l_next pass0 (pa_cons (pv 0) (pa_cons pe_int pa_nil))) (fun _ _ => rfl)) pa_nil)))))) pss_nil)
      (pss_cons (ps_if (pt_cmpR (op_eqZ (K := K) rfl hr.units) (pv 3) pe_int (nomark _)) (pss_one (ps_asg pe_int (pg_sub (pe_ix (ix_Y (K := K) rfl (hu_of hr)) (pv 2) (pv 4) (fun _ _ => rfl)) pe_int (set_Y (hu_of hr))))) pss_nil)
      (pss_cons (ps_if (pt_cmpR (op_eqZ (K := K) rfl hr.units) (pv 3) pe_int (nomark _)) (pss_one (ps_asg (pe_ix (ix_Y (K := K) rfl (hu_of hr)) (pe_lst (pa_cons pe_int (pa_cons pe_int (pa_cons pe_int (pa_cons (pe_op (op_addZ (K := K) rfl) (pe_ix (ix_Y (K := K) rfl (hu_of hr)) (pe_ix (ix_Y (K := K) rfl (hu_of hr)) (pv 2) (pv 4) (fun _ _ => rfl)) pe_int (fun _ _ => rfl)) pe_int) pa_nil))))) (pe_callZ (ok_l_next T) (hr.mono (by decide)) (by rfl) T.g_l_next T.F_l_next.kp T.b_l_next pass0 (pa_cons (pv 0) (pa_cons pe_int pa_nil))) (fun _ _ => rfl)) (pg_sub (pe_ix (ix_Y (K := K) rfl (hu_of hr)) (pv 2) (pv 4) (fun _ _ => rfl)) pe_int (set_Y (hu_of hr))))) pss_nil)
      (pss_cons (ps_if (pt_cmpR (op_eqZ (K := K) rfl hr.units) (pv 3) pe_int (nomark _)) (pss_cons (ps_set (i := 6) sc_l_spoilt_rows.nd rfl (by first | exact Or.inl rfl | exact Or.inr rfl) (pe_op (op_addZ (K := K) rfl) pe_int (pe_callZ (ok_l_next T) (hr.mono (by decide)) (by rfl) T.g_l_next T.F_l_next.kp T.b_l_next pass0 (pa_cons (pv 0) (pa_cons (pe_ix (ix_Y (K := K) rfl (hu_of hr)) (pe_ix (ix_Y (K := K) rfl (hu_of hr)) (pv 2) (pv 4) (fun _ _ => rfl)) pe_int (fun _ _ => rfl)) pa_nil)))))
      (pss_one (ps_asg (pe_ix (ix_Y (K := K) rfl (hu_of hr)) (pe_lst (pa_cons pe_int (pa_cons pe_int (pa_cons pe_int (pa_cons pe_int (pa_cons pe_int (pa_cons pe_int (pa_cons pe_int (pa_cons pe_int (pa_cons pe_int pa_nil)))))))))) (pe_callZ (ok_l_next T) (hr.mono (by decide)) (by rfl) T.g_l_next T.F_l_next.kp T.b_l_next pass0 (pa_cons (pv 0) (pa_cons pe_int pa_nil))) (fun _ _ => rfl)) (pg_sub (pe_ix (ix_Y (K := K) rfl (hu_of hr)) (pv 2) (pv 4) (fun _ _ => rfl)) (pv 6) (set_Y (hu_of hr)))))) pss_nil)
      (pss_cons (ps_if (PW.pt (pw_and (pt_cmpR (op_eqZ (K := K) rfl hr.units) (pv 3) pe_int (nomark _)) (pw_and1 (pt_cmpR op_gt (pv 4) pe_int (nomark _))))) (pss_cons (ps_set (i := 7) sc_l_spoilt_rows.nd rfl (by first | exact Or.inl rfl | exact Or.inr rfl) (pe_tup (pa_cons (pe_ix (ix_Y (K := K) rfl (hu_of hr)) (pe_ix (ix_Y (K := K) rfl (hu_of hr)) (pv 1) (pv 4) (fun _ _ => rfl)) pe_int (fun _ _ => rfl)) (pa_cons (pe_ix (ix_Y (K := K) rfl (hu_of hr)) (pe_ix (ix_Y (K := K) rfl (hu_of hr)) (pv 1) (pe_callZ (ok_l_next T) (hr.mono (by decide)) (by rfl) T.g_l_next T.F_l_next.kp T.b_l_next pass0 (pa_cons (pv 0) (pa_cons (pv 4) pa_nil))) (fun _ _ => rfl)) pe_int (fun _ _ => rfl)) (pa_cons (pe_ix (ix_Y (K := K) rfl (hu_of hr)) (pe_ix (ix_Y (K := K) rfl (hu_of hr)) (pv 1) (pv 4) (fun _ _ => rfl)) pe_int (fun _ _ => rfl)) (pa_cons (pe_ix (ix_Y (K := K) rfl (hu_of hr)) (pe_ix (ix_Y (K := K) rfl (hu_of hr)) (pv 1) (pv 4) (fun _ _ => rfl)) pe_int (fun _ _ => rfl)) pa_nil))))))
      (pss_one (ps_asg (pe_callZ (ok_l_entry T) (hr.mono (by decide)) (by rfl) T.g_l_entry T.F_l_entry.kp T.b_l_entry pass0 (pa_cons (pv 7) pa_nil)) (pg_sub (pv 2) (pv 4) (set_Y (hu_of hr)))))) pss_nil)
      (pss_cons (ps_if (pt_cmpR (op_eqZ (K := K) rfl hr.units) (pv 3) pe_int (nomark _)) (pss_one (ps_asg (pe_callZ (ok_l_entry T) (hr.mono (by decide)) (by rfl) T.g_l_entry T.F_l_entry.kp T.b_l_entry pass0 (pa_cons (pe_tup (pa_cons (pe_ix (ix_Y (K := K) rfl (hu_of hr)) (pe_ix (ix_Y (K := K) rfl (hu_of hr)) (pv 1) (pv 4) (fun _ _ => rfl)) pe_int (fun _ _ => rfl)) (pa_cons (pe_ix (ix_Y (K := K) rfl (hu_of hr)) (pe_ix (ix_Y (K := K) rfl (hu_of hr)) (pv 1) (pv 4) (fun _ _ => rfl)) pe_int (fun _ _ => rfl)) (pa_cons pe_int (pa_cons (pe_lst pa_nil) pa_nil))))) pa_nil)) (pg_sub (pv 2) (pv 4) (set_Y (hu_of hr))))) pss_nil)
      (pss_cons (ps_if (pt_cmpR (op_eqZ (K := K) rfl hr.units) (pv 3) pe_int (nomark _)) (pss_cons (ps_set (i := 8) sc_l_spoilt_rows.nd rfl (by first | exact Or.inl rfl | exact Or.inr rfl) (pe_ix (ix_Y (K := K) rfl (hu_of hr)) (pe_ix (ix_Y (K := K) rfl (hu_of hr)) (pv 1) (pv 4) (fun _ _ => rfl)) pe_int (fun _ _ => rfl)))
      (pss_one (ps_asg (pe_callZ (ok_l_entry T) (hr.mono (by decide)) (by rfl) T.g_l_entry T.F_l_entry.kp T.b_l_entry pass0 (pa_cons (pe_tup (pa_cons (pe_ix (ix_Y (K := K) rfl (hu_of hr)) (pe_ix (ix_Y (K := K) rfl (hu_of hr)) (pv 1) (pv 4) (fun _ _ => rfl)) pe_int (fun _ _ => rfl)) (pa_cons (pe_ix (ix_Y (K := K) rfl (hu_of hr)) (pe_ix (ix_Y (K := K) rfl (hu_of hr)) (pv 1) (pv 4) (fun _ _ => rfl)) pe_int (fun _ _ => rfl)) (pa_cons (pe_op (op_addZ (K := K) rfl) (pe_op op_mulZ pe_int (pe_callB (call_lenY (K := K) rfl) (by rfl) T.z_len PySem.boot_len (pa_cons (pv 8) pa_nil))) pe_int) (pa_cons (pv 8) pa_nil))))) pa_nil)) (pg_sub (pv 2) (pv 4) (set_Y (hu_of hr)))))) pss_nil)
      (pss_one (ps_ret (pv 3))))))))))))),
    fn_run (np := 3) (N := ["_law_draw_here", "_law_entries_here", "_law_rows", "_law_way", "_law_at", "_law_twin", "_law_sign", "_law_other", "_law_places_here"]) (body := b_l_spoilt_rows) (by unfold b_l_spoilt_rows; exact (sv_seq (sv_asg (ei_callN (ev_cons ei_var (ev_cons (ei_c cr_int) ev_nil))))
      (sv_seq (sv_asg (ei_callN (ev_cons ei_var (ev_cons (ei_cb jb_len (ea_cons ei_var ea_nil)) ev_nil))))
      (sv_seq (sv_if (et_and (et_tst (ei_op j_eq ei_var (ei_c cr_int))) (et_tst (ei_op (j_I0 fun _ _ => cr_bl) (ei_cb jb_len (ea_cons ei_var ea_nil)) (ei_c cr_int)))) (sv_seq (sv_asg (ei_callN (ev_cons ei_var (ev_cons (ei_op (j_I0 fun _ _ => cr_int) (ei_cb jb_len (ea_cons ei_var ea_nil)) (ei_c cr_int)) ev_nil))))
      (sv_seq (sv_asgS (ei_op j_ixY ei_var (ei_op j_add ei_var (ei_c cr_int))) ei_var ei_var)
      (sv_asgS (ei_callN (ev_cons (ei_op j_ixY ei_var ei_var) ev_nil)) ei_var (ei_op j_add ei_var (ei_c cr_int))))) sv_next)
      (sv_seq (sv_if (et_tst (ei_op j_eq ei_var (ei_c cr_int))) (sv_seq (sv_asg (ei_tup (ev_cons (ei_op j_ixY (ei_op j_ixY ei_var ei_var) (ei_c cr_int)) (ev_cons (ei_c cr_str) (ev_cons (ei_op j_ixY (ei_op j_ixY ei_var ei_var) (ei_c cr_int)) (ev_cons (ei_op j_ixY (ei_op j_ixY ei_var ei_var) (ei_c cr_int)) ev_nil))))))
      (sv_drop (ei_bm jm_ins ei_var (ev_cons (ei_op j_add ei_var (ei_c cr_int)) (ev_cons (ei_op j_ixY (ei_lst (ev_cons (ei_callN (ev_cons ei_var ev_nil)) (ev_cons (ei_cb jb_list (ea_cons (ei_op j_ixY ei_var ei_var) ea_nil)) ev_nil))) (ei_callN (ev_cons ei_var (ev_cons (ei_c cr_int) ev_nil)))) ev_nil))))) sv_next)
      (sv_seq (sv_if (et_tst (ei_op j_eq ei_var (ei_c cr_int))) (sv_asgS (ei_c cr_int) (ei_op j_ixY ei_var ei_var) (ei_c cr_int)) sv_next)
      (sv_seq (sv_if (et_tst (ei_op j_eq ei_var (ei_c cr_int))) (sv_asgS (ei_op j_ixY (ei_lst (ev_cons (ei_c cr_int) (ev_cons (ei_c cr_int) (ev_cons (ei_c cr_int) (ev_cons (ei_op j_add (ei_op j_ixY (ei_op j_ixY ei_var ei_var) (ei_c cr_int)) (ei_c cr_int)) ev_nil))))) (ei_callN (ev_cons ei_var (ev_cons (ei_c cr_int) ev_nil)))) (ei_op j_ixY ei_var ei_var) (ei_c cr_int)) sv_next)
      (sv_seq (sv_if (et_tst (ei_op j_eq ei_var (ei_c cr_int))) (sv_seq (sv_asg (ei_op j_add (ei_c cr_int) (ei_callN (ev_cons ei_var (ev_cons (ei_op j_ixY (ei_op j_ixY ei_var ei_var) (ei_c cr_int)) ev_nil)))))
      (sv_asgS (ei_op j_ixY (ei_lst (ev_cons (ei_c cr_int) (ev_cons (ei_c cr_int) (ev_cons (ei_c cr_int) (ev_cons (ei_c cr_int) (ev_cons (ei_c cr_int) (ev_cons (ei_c cr_int) (ev_cons (ei_c cr_int) (ev_cons (ei_c cr_int) (ev_cons (ei_c cr_int) ev_nil)))))))))) (ei_callN (ev_cons ei_var (ev_cons (ei_c cr_int) ev_nil)))) (ei_op j_ixY ei_var ei_var) ei_var)) sv_next)
      (sv_seq (sv_if (et_and (et_tst (ei_op j_eq ei_var (ei_c cr_int))) (et_tst (ei_op (j_I0 fun _ _ => cr_bl) ei_var (ei_c cr_int)))) (sv_seq (sv_asg (ei_tup (ev_cons (ei_op j_ixY (ei_op j_ixY ei_var ei_var) (ei_c cr_int)) (ev_cons (ei_op j_ixY (ei_op j_ixY ei_var (ei_callN (ev_cons ei_var (ev_cons ei_var ev_nil)))) (ei_c cr_int)) (ev_cons (ei_op j_ixY (ei_op j_ixY ei_var ei_var) (ei_c cr_int)) (ev_cons (ei_op j_ixY (ei_op j_ixY ei_var ei_var) (ei_c cr_int)) ev_nil))))))
      (sv_asgS (ei_callN (ev_cons ei_var ev_nil)) ei_var ei_var)) sv_next)
      (sv_seq (sv_if (et_tst (ei_op j_eq ei_var (ei_c cr_int))) (sv_asgS (ei_callN (ev_cons (ei_tup (ev_cons (ei_op j_ixY (ei_op j_ixY ei_var ei_var) (ei_c cr_int)) (ev_cons (ei_op j_ixY (ei_op j_ixY ei_var ei_var) (ei_c cr_int)) (ev_cons (ei_c cr_int) (ev_cons (ei_lst ev_nil) ev_nil))))) ev_nil)) ei_var ei_var) sv_next)
      (sv_seq (sv_if (et_tst (ei_op j_eq ei_var (ei_c cr_int))) (sv_seq (sv_asg (ei_op j_ixY (ei_op j_ixY ei_var ei_var) (ei_c cr_int)))
      (sv_asgS (ei_callN (ev_cons (ei_tup (ev_cons (ei_op j_ixY (ei_op j_ixY ei_var ei_var) (ei_c cr_int)) (ev_cons (ei_op j_ixY (ei_op j_ixY ei_var ei_var) (ei_c cr_int)) (ev_cons (ei_op j_add (ei_op j_mul (ei_c cr_int) (ei_cb jb_len (ea_cons ei_var ea_nil))) (ei_c cr_int)) (ev_cons ei_var ev_nil))))) ev_nil)) ei_var ei_var)) sv_next)
      (sv_ret ei_var)))))))))))) h⟩)
@[irreducible] noncomputable def b_l_spoilt : Ms :=
  (mSeq (mAsgK 2 (mLcG [6] (mWL (mName 1)) (tgN 6) mYes (mK (mCallN m_l_entry (vCons (mName 6) vNil)))))
  (mSeq (mAsg 3 (mOp fAdd (mC (.int 8)) (mCallN m_l_next (vCons (mName 0) (vCons (mC (.int 7)) vNil)))))
  (mSeq (mIfS (mBl (mOp fEq (mName 3) (mC (.int 12)))) (mAsgK 2 (mLcG [7] (mRng1 (aCons (mOp fAdd (mC (.int 30)) (mCallN m_l_next (vCons (mName 0) (vCons (mC (.int 3)) vNil)))) aNil)) (tgN 7) mYes (mK (mCallN m_l_entry (vCons (mTup (vCons (mOp fMul (mC (.int 3)) (mName 7)) (vCons (mOp fAdd (mC (.str (Str.ofString "n"))) (mCB fStr (aCons (mName 7) aNil))) (vCons (mOp (fI (fun _ j => 0 < j) fun i j => .int (i % j)) (mName 7) (mC (.int 9))) (vCons (mLst (vCons (mName 7) vNil)) vNil))))) vNil))))) mNext)
  (mSeq (mIfS (mAnd (mBl (mOp fNe (mName 1) (mLst vNil))) (mAnd (mBl (mOp fNe (mName 3) (mC (.int 12)))) (mBl (mOp (fI0 fun i j => .bl (decide (j < i))) (mCallN m_l_next (vCons (mName 0) (vCons (mC (.int 3)) vNil))) (mC (.int 0)))))) (mAsg 3 (mCallN m_l_spoilt_rows (vCons (mName 0) (vCons (mName 1) (vCons (mName 2) vNil))))) mNext)
  (mSeq (mAsg 4 (mLst (vCons (mCB fLen (aCons (mName 2) aNil)) vNil)))
  (mSeq (mFor (mWL (mName 2)) (tgN 5) (mAsg 4 (mOp fAdd (mName 4) (mName 5))))
  (mSeq (mIfS (mBl (mOp fEq (mName 3) (mC (.int 8)))) (mAsgS (mName 4) (mC (.int 0)) (mOp (fI (fun _ j => 0 < j) fun i j => .int (i % j)) (mOp fAdd (mOp fAdd (mOp fIxY (mName 4) (mC (.int 0))) (mC (.int 1))) (mOp fMul (mC (.int 254)) (mCallN m_l_next (vCons (mName 0) (vCons (mC (.int 2)) vNil))))) (mC (.int 256)))) mNext)
  (mSeq (mIfS (mBl (mOp fEq (mName 3) (mC (.int 9)))) (mAsgS (mName 4) (mCallN m_l_next (vCons (mName 0) (vCons (mCB fLen (aCons (mName 4) aNil)) vNil))) (mCallN m_l_next (vCons (mName 0) (vCons (mC (.int 256)) vNil)))) mNext)
  (mSeq (mAsg 5 (mOp fAdd (mOp fAdd (mLst (vCons (mC (.int 165)) (vCons (mC (.int 91)) vNil))) (mName 4)) (mCallN m_l_sum (vCons (mName 4) vNil))))
  (mSeq (mIfS (mBl (mOp fEq (mName 3) (mC (.int 10)))) (mAsgS (mName 5) (mOp (fI0 fun i j => .int (i - j)) (mOp (fI0 fun i j => .int (i - j)) (mCB fLen (aCons (mName 5) aNil)) (mC (.int 1))) (mCallN m_l_next (vCons (mName 0) (vCons (mC (.int 2)) vNil)))) (mCallN m_l_next (vCons (mName 0) (vCons (mC (.int 256)) vNil)))) mNext)
  (mSeq (mIfS (mBl (mOp fEq (mName 3) (mC (.int 11)))) (mAsg 5 (mSl (mName 5) oNo (oSm (mCallN m_l_next (vCons (mName 0) (vCons (mCB fLen (aCons (mName 5) aNil)) vNil)))))) mNext)
  (mRet (mName 5)))))))))))))
noncomputable def m_l_spoilt : Mf := mFn 2 8 b_l_spoilt
theorem ok_l_spoilt {P : Program} {w : World} {K : PySem.W.Frag} {mg : Str → Option Value} {base : Heap} (T : Tx K mg) : FnOk P w K mg base CX0 4 T.a_l_spoilt T.d_l_spoilt ["_law_draw_here", "_law_entries_here"] (spM K (ctT T) m_l_spoilt) :=
  T.F_l_spoilt.ok sc_l_spoilt (fun vs H Q E h => sp_len h) (fun cdv A outer s H vs Q E hr h => ⟨_, (pss_cons (ps_setLc (i := 2) (own := [("_law_entry_here", 6)]) rfl sc_l_spoilt.nd rfl rfl (sw_true rfl rfl rfl (by decide +kernel)) (pi_listZ (K := K) rfl (pv 1)) (blkOk_by (N := ["_law_draw_here", "_law_entries_here", "_law_rows", "_law_way", "_law_told", "_law_row", "_law_entry_here", "_law_k"]) (sc := defScope s_l_spoilt) (by decide +kernel)) (fun _ _ _ _ _ => (pg_name (i := 6) sc_l_spoilt.nd rfl (by first | exact Or.inl rfl | exact Or.inr rfl))) (fun _ _ _ _ _ => pts_nil) (fun _ _ _ _ _ => (pe_callZ (ok_l_entry T) (hr.mono (by decide)) (by rfl) T.g_l_entry T.F_l_entry.kp T.b_l_entry pass0 (pa_cons (pv 6) pa_nil))))
      (pss_cons (ps_set (i := 3) sc_l_spoilt.nd rfl (by first | exact Or.inl rfl | exact Or.inr rfl) (pe_op (op_addZ (K := K) rfl) pe_int (pe_callZ (ok_l_next T) (hr.mono (by decide)) (by rfl) T.g_l_next T.F_l_next.kp T.b_l_next pass0 (pa_cons (pv 0) (pa_cons pe_int pa_nil)))))
      (pss_cons (ps_if (pt_cmpR (op_eqZ (K := K) rfl hr.units) (pv 3) pe_int (nomark _)) (pss_one (ps_setLc (i := 2) (own := [("_law_k", 7)]) rfl sc_l_spoilt.nd rfl rfl (sw_true rfl rfl rfl (by decide +kernel)) (pi_range1 rfl T.z_range (pa_cons (pe_op (op_addZ (K := K) rfl) pe_int (pe_callZ (ok_l_next T) (hr.mono (by decide)) (by rfl) T.g_l_next T.F_l_next.kp T.b_l_next pass0 (pa_cons (pv 0) (pa_cons pe_int pa_nil)))) pa_nil)) (blkOk_by (N := ["_law_draw_here", "_law_entries_here", "_law_rows", "_law_way", "_law_told", "_law_row", "_law_entry_here", "_law_k"]) (sc := defScope s_l_spoilt) (by decide +kernel)) (fun _ _ _ _ _ => (pg_name (i := 7) sc_l_spoilt.nd rfl (by first | exact Or.inl rfl | exact Or.inr rfl))) (fun _ _ _ _ _ => pts_nil) (fun _ _ _ _ _ => (pe_callZ (ok_l_entry T) (hr.mono (by decide)) (by rfl) T.g_l_entry T.F_l_entry.kp T.b_l_entry pass0 (pa_cons (pe_tup (pa_cons (pe_op op_mulZ pe_int (pv 7)) (pa_cons (pe_op (op_addZ (K := K) rfl) pe_str (pe_callTy (call_strY) (by rfl) T.z_str (by decide +kernel) (pa_cons (pv 7) pa_nil))) (pa_cons (pe_op op_mod (pv 7) pe_int) (pa_cons (pe_lst (pa_cons (pv 7) pa_nil)) pa_nil))))) pa_nil))))) pss_nil)
      (pss_cons (ps_if (PW.pt (pw_and (pt_cmpR (op_neZ (K := K) rfl hr.units) (pv 1) (pe_lst pa_nil) (nomark _)) (pw_and (pt_cmpR (op_neZ (K := K) rfl hr.units) (pv 3) pe_int (nomark _)) (pw_and1 (pt_cmpR op_gt (pe_callZ (ok_l_next T) (hr.mono (by decide)) (by rfl) T.g_l_next T.F_l_next.kp T.b_l_next pass0 (pa_cons (pv 0) (pa_cons pe_int pa_nil))) pe_int (nomark _)))))) (pss_one (ps_set (i := 3) sc_l_spoilt.nd rfl (by first | exact Or.inl rfl | exact Or.inr rfl) (pe_callZ (ok_l_spoilt_rows T) (hr.mono (by decide)) (by rfl) T.g_l_spoilt_rows T.F_l_spoilt_rows.kp T.b_l_spoilt_rows pass0 (pa_cons (pv 0) (pa_cons (pv 1) (pa_cons (pv 2) pa_nil)))))) pss_nil)
      (pss_cons (ps_set (i := 4) sc_l_spoilt.nd rfl (by first | exact Or.inl rfl | exact Or.inr rfl) (pe_lst (pa_cons (pe_callB (call_lenY (K := K) rfl) (by rfl) T.z_len PySem.boot_len (pa_cons (pv 2) pa_nil)) pa_nil)))
      (pss_cons (ps_for PassesOwn.never rfl (pi_listZ (K := K) rfl (pv 2)) (pg_name (i := 5) sc_l_spoilt.nd rfl (by first | exact Or.inl rfl | exact Or.inr rfl)) (pss_one (ps_set (i := 4) sc_l_spoilt.nd rfl (by first | exact Or.inl rfl | exact Or.inr rfl) (pe_op (op_addZ (K := K) rfl) (pv 4) (pv 5)))))
      (pss_cons (ps_if (pt_cmpR (op_eqZ (K := K) rfl hr.units) (pv 3) pe_int (nomark _)) (pss_one (ps_asg (pe_op op_mod (pe_op (op_addZ (K := K) rfl) (pe_op (op_addZ (K := K) rfl) (pe_ix (ix_Y (K := K) rfl (hu_of hr)) (pv 4) pe_int (fun _ _ => rfl)) pe_int) (pe_op op_mulZ pe_int (pe_callZ (ok_l_next T) (hr.mono (by decide)) (by rfl) T.g_l_next T.F_l_next.kp T.b_l_next pass0 (pa_cons (pv 0) (pa_cons pe_int pa_nil))))) pe_int) (pg_sub (pv 4) pe_int (set_Y (hu_of hr))))) pss_nil)
      (pss_cons (ps_if (pt_cmpR (op_eqZ (K := K) rfl hr.units) (pv 3) pe_int (nomark _)) (pss_one (ps_asg (pe_callZ (ok_l_next T) (hr.mono (by decide)) (by rfl) T.g_l_next T.F_l_next.kp T.b_l_next pass0 (pa_cons (pv 0) (pa_cons pe_int pa_nil))) (pg_sub (pv 4) (pe_callZ (ok_l_next T) (hr.mono (by decide)) (by rfl) T.g_l_next T.F_l_next.kp T.b_l_next pass0 (pa_cons (pv 0) (pa_cons (pe_callB (call_lenY (K := K) rfl) (by rfl) T.z_len PySem.boot_len (pa_cons (pv 4) pa_nil)) pa_nil))) (set_Y (hu_of hr))))) pss_nil)
      (pss_cons (ps_set (i := 5) sc_l_spoilt.nd rfl (by first | exact Or.inl rfl | exact Or.inr rfl) (pe_op (op_addZ (K := K) rfl) (pe_op (op_addZ (K := K) rfl) (pe_lst (pa_cons pe_int (pa_cons pe_int pa_nil))) (pv 4)) (pe_callZ (ok_l_sum T) (hr.mono (by decide)) (by rfl) T.g_l_sum T.F_l_sum.kp T.b_l_sum pass0 (pa_cons (pv 4) pa_nil))))
      (pss_cons (ps_if (pt_cmpR (op_eqZ (K := K) rfl hr.units) (pv 3) pe_int (nomark _)) (pss_one (ps_asg (pe_callZ (ok_l_next T) (hr.mono (by decide)) (by rfl) T.g_l_next T.F_l_next.kp T.b_l_next pass0 (pa_cons (pv 0) (pa_cons pe_int pa_nil))) (pg_sub (pv 5) (pe_op op_sub (pe_op op_sub (pe_callB (call_lenY (K := K) rfl) (by rfl) T.z_len PySem.boot_len (pa_cons (pv 5) pa_nil)) pe_int) (pe_callZ (ok_l_next T) (hr.mono (by decide)) (by rfl) T.g_l_next T.F_l_next.kp T.b_l_next pass0 (pa_cons (pv 0) (pa_cons pe_int pa_nil)))) (set_Y (hu_of hr))))) pss_nil)
      (pss_cons (ps_if (pt_cmpR (op_eqZ (K := K) rfl hr.units) (pv 3) pe_int (nomark _)) (pss_one (ps_set (i := 5) sc_l_spoilt.nd rfl (by first | exact Or.inl rfl | exact Or.inr rfl) (pe_slice (sl_Z (K := K) rfl) (pv 5) po_none (po_some (pe_callZ (ok_l_next T) (hr.mono (by decide)) (by rfl) T.g_l_next T.F_l_next.kp T.b_l_next pass0 (pa_cons (pv 0) (pa_cons (pe_callB (call_lenY (K := K) rfl) (by rfl) T.z_len PySem.boot_len (pa_cons (pv 5) pa_nil)) pa_nil))))))) pss_nil)
      (pss_one (ps_ret (pv 5)))))))))))))),
    fn_run (np := 2) (N := ["_law_draw_here", "_law_entries_here", "_law_rows", "_law_way", "_law_told", "_law_row", "_law_entry_here", "_law_k"]) (body := b_l_spoilt) (by unfold b_l_spoilt; exact (sv_seq (sv_asgK (ei_lcK (ws := [6]) (jw_list ei_var) sg_name (by decide) et_yes (ei_callN (ev_cons ei_var ev_nil))))
      (sv_seq (sv_asg (ei_op j_add (ei_c cr_int) (ei_callN (ev_cons ei_var (ev_cons (ei_c cr_int) ev_nil)))))
      (sv_seq (sv_if (et_tst (ei_op j_eq ei_var (ei_c cr_int))) (sv_asgK (ei_lcK (ws := [7]) (jw_rng1 (ea_cons (ei_op j_add (ei_c cr_int) (ei_callN (ev_cons ei_var (ev_cons (ei_c cr_int) ev_nil)))) ea_nil)) sg_name (by decide) et_yes (ei_callN (ev_cons (ei_tup (ev_cons (ei_op j_mul (ei_c cr_int) ei_var) (ev_cons (ei_op j_add (ei_c cr_str) (ei_cb jb_str (ea_cons ei_var ea_nil))) (ev_cons (ei_op (j_I fun _ _ => cr_int) ei_var (ei_c cr_int)) (ev_cons (ei_lst (ev_cons ei_var ev_nil)) ev_nil))))) ev_nil)))) sv_next)
      (sv_seq (sv_if (et_and (et_tst (ei_op j_ne ei_var (ei_lst ev_nil))) (et_and (et_tst (ei_op j_ne ei_var (ei_c cr_int))) (et_tst (ei_op (j_I0 fun _ _ => cr_bl) (ei_callN (ev_cons ei_var (ev_cons (ei_c cr_int) ev_nil))) (ei_c cr_int))))) (sv_asg (ei_callN (ev_cons ei_var (ev_cons ei_var (ev_cons ei_var ev_nil))))) sv_next)
      (sv_seq (sv_asg (ei_lst (ev_cons (ei_cb jb_len (ea_cons ei_var ea_nil)) ev_nil)))
      (sv_seq (sv_for (jw_list ei_var) sg_name (sv_asg (ei_op j_add ei_var ei_var)))
      (sv_seq (sv_if (et_tst (ei_op j_eq ei_var (ei_c cr_int))) (sv_asgS (ei_op (j_I fun _ _ => cr_int) (ei_op j_add (ei_op j_add (ei_op j_ixY ei_var (ei_c cr_int)) (ei_c cr_int)) (ei_op j_mul (ei_c cr_int) (ei_callN (ev_cons ei_var (ev_cons (ei_c cr_int) ev_nil))))) (ei_c cr_int)) ei_var (ei_c cr_int)) sv_next)
      (sv_seq (sv_if (et_tst (ei_op j_eq ei_var (ei_c cr_int))) (sv_asgS (ei_callN (ev_cons ei_var (ev_cons (ei_c cr_int) ev_nil))) ei_var (ei_callN (ev_cons ei_var (ev_cons (ei_cb jb_len (ea_cons ei_var ea_nil)) ev_nil)))) sv_next)
      (sv_seq (sv_asg (ei_op j_add (ei_op j_add (ei_lst (ev_cons (ei_c cr_int) (ev_cons (ei_c cr_int) ev_nil))) ei_var) (ei_callN (ev_cons ei_var ev_nil))))
      (sv_seq (sv_if (et_tst (ei_op j_eq ei_var (ei_c cr_int))) (sv_asgS (ei_callN (ev_cons ei_var (ev_cons (ei_c cr_int) ev_nil))) ei_var (ei_op (j_I0 fun _ _ => cr_int) (ei_op (j_I0 fun _ _ => cr_int) (ei_cb jb_len (ea_cons ei_var ea_nil)) (ei_c cr_int)) (ei_callN (ev_cons ei_var (ev_cons (ei_c cr_int) ev_nil))))) sv_next)
      (sv_seq (sv_if (et_tst (ei_op j_eq ei_var (ei_c cr_int))) (sv_asg (ei_sl ei_var eo_no (eo_sm (ei_callN (ev_cons ei_var (ev_cons (ei_cb jb_len (ea_cons ei_var ea_nil)) ev_nil)))))) sv_next)
      (sv_ret ei_var))))))))))))) h⟩)
@[irreducible] noncomputable def b_Cursor_init : Ms :=
  (mSeq (mFldS (fun c => c == 0) "source" (mName 0) (mName 1))
  (mSeq (mFldS (fun c => c == 0) "spot" (mName 0) (mName 2))
  (mFldS (fun c => c == 0) "short" (mName 0) (mC (.bl false)))))
noncomputable def m_Cursor_init : Mf := mFn 3 3 b_Cursor_init
theorem ok_Cursor_init {P : Program} {w : World} {K : PySem.W.Frag} {mg : Str → Option Value} {base : Heap} (T : Tx K mg) : FnOk P w K mg base CX0 1 T.a_Cursor_init T.d_Cursor_init ["self", "row", "place"] (spM K (ctT T) m_Cursor_init) :=
  T.F_Cursor_init.ok sc_Cursor_init (fun vs H Q E h => sp_len h) (fun cdv A outer s H vs Q E hr h => ⟨_, (pss_cons (ps_fldZ (K := K) rfl (pv 0) (pv 1) rfl)
      (pss_cons (ps_fldZ (K := K) rfl (pv 0) (pv 2) rfl)
      (pss_one (ps_fldZ (K := K) rfl (pv 0) pe_bl rfl)))),
    fn_run (np := 3) (N := ["self", "row", "place"]) (body := b_Cursor_init) (by unfold b_Cursor_init; exact (sv_seq (sv_fld (ok := (fun c => c == 0)) (okc1 ⟨T.cl_Cursor, T.n_Cursor_source⟩) ei_var ei_var)
      (sv_seq (sv_fld (ok := (fun c => c == 0)) (okc1 ⟨T.cl_Cursor, T.n_Cursor_spot⟩) ei_var ei_var)
      (sv_fld (ok := (fun c => c == 0)) (okc1 ⟨T.cl_Cursor, T.n_Cursor_short⟩) ei_var (ei_c cr_bl))))) h⟩)
@[irreducible] noncomputable def b_Cursor_number : Ms :=
  (mSeq (mAsg 2 (mSl (mFld (fun c => c == 0) "source" (mName 0)) (oSm (mFld (fun c => c == 0) "spot" (mName 0))) (oSm (mOp fAdd (mFld (fun c => c == 0) "spot" (mName 0)) (mName 1)))))
  (mSeq (mFldA (fun c => c == 0) "spot" (fun i j => i + j) (mName 0) (mName 1))
  (mSeq (mIfS (mBl (mOp (fI0 fun i j => .bl (decide (i < j))) (mCB fLen (aCons (mName 2) aNil)) (mName 1))) (mFldS (fun c => c == 0) "short" (mName 0) (mC (.bl true))) mNext)
  (mSeq (mAsg 3 (mC (.int 0)))
  (mSeq (mFor (mWL (mName 2)) (tgN 4) (mAsg 3 (mOp (fI0 fun i j => .int (Builtin.bitOr i j)) (mOp (fI CShl fun i j => .int (i * 2 ^ j.toNat)) (mName 3) (mC (.int 8))) (mName 4))))
  (mRet (mName 3)))))))
noncomputable def m_Cursor_number : Mf := mFn 2 5 b_Cursor_number
theorem ok_Cursor_number {P : Program} {w : World} {K : PySem.W.Frag} {mg : Str → Option Value} {base : Heap} (T : Tx K mg) : FnOk P w K mg base CX0 1 T.a_Cursor_number T.d_Cursor_number ["self", "many"] (spM K (ctT T) m_Cursor_number) :=
  T.F_Cursor_number.ok sc_Cursor_number (fun vs H Q E h => sp_len h) (fun cdv A outer s H vs Q E hr h => ⟨_, (pss_cons (ps_set (i := 2) sc_Cursor_number.nd rfl (by first | exact Or.inl rfl | exact Or.inr rfl) (pe_slice (sl_Z (K := K) rfl) (pe_fldZ (K := K) rfl (pv 0) rfl) (po_some (pe_fldZ (K := K) rfl (pv 0) rfl)) (po_some (pe_op (op_addZ (K := K) rfl) (pe_fldZ (K := K) rfl (pv 0) rfl) (pv 1)))))
      (pss_cons (ps_fldaugZ (K := K) rfl (pv 0) (pv 1) in_add)
      (pss_cons (ps_if (pt_cmpR op_lt (pe_callB (call_lenY (K := K) rfl) (by rfl) T.z_len PySem.boot_len (pa_cons (pv 2) pa_nil)) (pv 1) (nomark _)) (pss_one (ps_fldZ (K := K) rfl (pv 0) pe_bl rfl)) pss_nil)
      (pss_cons (ps_set (i := 3) sc_Cursor_number.nd rfl (by first | exact Or.inl rfl | exact Or.inr rfl) pe_int)
      (pss_cons (ps_for PassesOwn.never rfl (pi_listZ (K := K) rfl (pv 2)) (pg_name (i := 4) sc_Cursor_number.nd rfl (by first | exact Or.inl rfl | exact Or.inr rfl)) (pss_one (ps_set (i := 3) sc_Cursor_number.nd rfl (by first | exact Or.inl rfl | exact Or.inr rfl) (pe_op op_or (pe_op op_shlW (pv 3) pe_int) (pv 4)))))
      (pss_one (ps_ret (pv 3)))))))),
    fn_run (np := 2) (N := ["self", "many", "part", "number", "byte"]) (body := b_Cursor_number) (by unfold b_Cursor_number; exact (sv_seq (sv_asg (ei_sl (ei_fld (ok := (fun c => c == 0)) (okc1 ⟨T.cl_Cursor, T.n_Cursor_source⟩) ei_var) (eo_sm (ei_fld (ok := (fun c => c == 0)) (okc1 ⟨T.cl_Cursor, T.n_Cursor_spot⟩) ei_var)) (eo_sm (ei_op j_add (ei_fld (ok := (fun c => c == 0)) (okc1 ⟨T.cl_Cursor, T.n_Cursor_spot⟩) ei_var) ei_var))))
      (sv_seq (sv_fldA (ok := (fun c => c == 0)) (g := (fun i j => i + j)) (okc1 ⟨T.cl_Cursor, T.n_Cursor_spot⟩) ei_var ei_var)
      (sv_seq (sv_if (et_tst (ei_op (j_I0 fun _ _ => cr_bl) (ei_cb jb_len (ea_cons ei_var ea_nil)) ei_var)) (sv_fld (ok := (fun c => c == 0)) (okc1 ⟨T.cl_Cursor, T.n_Cursor_short⟩) ei_var (ei_c cr_bl)) sv_next)
      (sv_seq (sv_asg (ei_c cr_int))
      (sv_seq (sv_for (jw_list ei_var) sg_name (sv_asg (ei_op (j_I0 fun _ _ => cr_int) (ei_op (j_I fun _ _ => cr_int) ei_var (ei_c cr_int)) ei_var)))
      (sv_ret ei_var))))))) h⟩)
@[irreducible] noncomputable def b_crc_on : Ms :=
  (mSeq (mAsg 2 (mName 0))
  (mSeq (mFor (mWL (mName 1)) (tgN 3) (mSeq (mAsg 2 (mOp (fI0 fun i j => .int (Builtin.bitXor i j)) (mName 2) (mOp (fI CShl fun i j => .int (i * 2 ^ j.toNat)) (mName 3) (mC (.int 8)))))
  (mFor (mRng1 (aCons (mC (.int 8)) aNil)) (tgN 4) (mIfS (mTru (mOp (fI0 fun i j => .int (Builtin.bitAnd i j)) (mName 2) (mC (.int 32768)))) (mAsg 2 (mOp (fI0 fun i j => .int (Builtin.bitXor i j)) (mOp (fI CShl fun i j => .int (i * 2 ^ j.toNat)) (mOp (fI0 fun i j => .int (Builtin.bitXor i j)) (mName 2) (mC (.int 32768))) (mC (.int 1))) (mC (.int 4129)))) (mAsg 2 (mOp (fI CShl fun i j => .int (i * 2 ^ j.toNat)) (mName 2) (mC (.int 1))))))))
  (mRet (mName 2))))
noncomputable def m_crc_on : Mf := mFn 2 5 b_crc_on
theorem ok_crc_on {P : Program} {w : World} {K : PySem.W.Frag} {mg : Str → Option Value} {base : Heap} (T : Tx K mg) : FnOk P w K mg base CX0 1 T.a_crc_on T.d_crc_on ["begun", "row"] (spM K (ctT T) m_crc_on) :=
  T.F_crc_on.ok sc_crc_on (fun vs H Q E h => sp_len h) (fun cdv A outer s H vs Q E hr h => ⟨_, (pss_cons (ps_set (i := 2) sc_crc_on.nd rfl (by first | exact Or.inl rfl | exact Or.inr rfl) (pv 0))
      (pss_cons (ps_for PassesOwn.never rfl (pi_listZ (K := K) rfl (pv 1)) (pg_name (i := 3) sc_crc_on.nd rfl (by first | exact Or.inl rfl | exact Or.inr rfl)) (pss_cons (ps_set (i := 2) sc_crc_on.nd rfl (by first | exact Or.inl rfl | exact Or.inr rfl) (pe_op op_xor (pv 2) (pe_op op_shlW (pv 3) pe_int)))
      (pss_one (ps_for PassesOwn.never rfl (pi_range1 rfl T.z_range (pa_cons pe_int pa_nil)) (pg_name (i := 4) sc_crc_on.nd rfl (by first | exact Or.inl rfl | exact Or.inr rfl)) (pss_one (ps_if (pt_truthZ (K := K) rfl (pe_op op_and (pv 2) (pe_glob rfl T.m_TOP T.r_TOP)) (by intro _; rfl)) (pss_one (ps_set (i := 2) sc_crc_on.nd rfl (by first | exact Or.inl rfl | exact Or.inr rfl) (pe_op op_xor (pe_op op_shlW (pe_op op_xor (pv 2) (pe_glob rfl T.m_TOP T.r_TOP)) pe_int) (pe_glob rfl T.m_FEED T.r_FEED)))) (pss_one (ps_set (i := 2) sc_crc_on.nd rfl (by first | exact Or.inl rfl | exact Or.inr rfl) (pe_op op_shlW (pv 2) pe_int)))))))))
      (pss_one (ps_ret (pv 2))))),
    fn_run (np := 2) (N := ["begun", "row", "found", "byte", "k"]) (body := b_crc_on) (by unfold b_crc_on; exact (sv_seq (sv_asg ei_var)
      (sv_seq (sv_for (jw_list ei_var) sg_name (sv_seq (sv_asg (ei_op (j_I0 fun _ _ => cr_int) ei_var (ei_op (j_I fun _ _ => cr_int) ei_var (ei_c cr_int))))
      (sv_for (jw_rng1 (ea_cons (ei_c cr_int) ea_nil)) sg_name (sv_if (et_tru (ei_op (j_I0 fun _ _ => cr_int) ei_var (ei_c cr_int))) (sv_asg (ei_op (j_I0 fun _ _ => cr_int) (ei_op (j_I fun _ _ => cr_int) (ei_op (j_I0 fun _ _ => cr_int) ei_var (ei_c cr_int)) (ei_c cr_int)) (ei_c cr_int))) (sv_asg (ei_op (j_I fun _ _ => cr_int) ei_var (ei_c cr_int)))))))
      (sv_ret ei_var)))) h⟩)
@[irreducible] noncomputable def b_crc : Ms :=
  (mRet (mCallN m_crc_on (vCons (mC (.int 65535)) (vCons (mName 0) vNil))))
noncomputable def m_crc : Mf := mFn 1 1 b_crc
theorem ok_crc {P : Program} {w : World} {K : PySem.W.Frag} {mg : Str → Option Value} {base : Heap} (T : Tx K mg) : FnOk P w K mg base CX0 2 T.a_crc T.d_crc ["row"] (spM K (ctT T) m_crc) :=
  T.F_crc.ok sc_crc (fun vs H Q E h => sp_len h) (fun cdv A outer s H vs Q E hr h => ⟨_, (pss_one (ps_ret (pe_callZ (ok_crc_on T) (hr.mono (by decide)) (by rfl) T.g_crc_on T.F_crc_on.kp T.b_crc_on pass0 (pa_cons (pe_glob rfl T.m_BEGIN T.r_BEGIN) (pa_cons (pv 0) pa_nil))))),
    fn_run (np := 1) (N := ["row"]) (body := b_crc) (by unfold b_crc; exact (sv_ret (ei_callN (ev_cons (ei_c cr_int) (ev_cons ei_var ev_nil))))) h⟩)
@[irreducible] noncomputable def b_crc_row : Ms :=
  (mSeq (mAsg 1 (mCallN m_crc (vCons (mName 0) vNil)))
  (mRet (mLst (vCons (mOp (fI (fun _ j => 0 ≤ j) fun i j => .int (i / 2 ^ j.toNat)) (mName 1) (mC (.int 8))) (vCons (mOp (fI0 fun i j => .int (Builtin.bitAnd i j)) (mName 1) (mC (.int 255))) vNil)))))
noncomputable def m_crc_row : Mf := mFn 1 2 b_crc_row
theorem ok_crc_row {P : Program} {w : World} {K : PySem.W.Frag} {mg : Str → Option Value} {base : Heap} (T : Tx K mg) : FnOk P w K mg base CX0 3 T.a_crc_row T.d_crc_row ["row"] (spM K (ctT T) m_crc_row) :=
  T.F_crc_row.ok sc_crc_row (fun vs H Q E h => sp_len h) (fun cdv A outer s H vs Q E hr h => ⟨_, (pss_cons (ps_set (i := 1) sc_crc_row.nd rfl (by first | exact Or.inl rfl | exact Or.inr rfl) (pe_callZ (ok_crc T) (hr.mono (by decide)) (by rfl) T.g_crc T.F_crc.kp T.b_crc pass0 (pa_cons (pv 0) pa_nil)))
      (pss_one (ps_ret (pe_lst (pa_cons (pe_op op_shr (pv 1) pe_int) (pa_cons (pe_op op_and (pv 1) pe_int) pa_nil)))))),
    fn_run (np := 1) (N := ["row", "found"]) (body := b_crc_row) (by unfold b_crc_row; exact (sv_seq (sv_asg (ei_callN (ev_cons ei_var ev_nil)))
      (sv_ret (ei_lst (ev_cons (ei_op (j_I fun _ _ => cr_int) ei_var (ei_c cr_int)) (ev_cons (ei_op (j_I0 fun _ _ => cr_int) ei_var (ei_c cr_int)) ev_nil)))))) h⟩)
@[irreducible] noncomputable def b_may_follow : Ms :=
  (mSeq (mIfS (mAnd (mBl (mOp fNeR (mName 1) (mLst vNil))) (mBl (mOp (fI0 fun i j => .bl (decide (i ≤ j))) (mOp fIxY (mName 0) (mC (.int 0))) (mOp fIxY (mOp fIxY (mName 1) (mUn fNeg (mC (.int 1)))) (mC (.int 0)))))) (mRet (mC (.bl false))) mNext)
  (mRet (mOp fNin (mOp fIxY (mName 0) (mC (.int 1))) (mLc [2] (mWL (mName 1)) (tgN 2) mYes (mOp fIxY (mName 2) (mC (.int 1)))))))
noncomputable def m_may_follow : Mf := mFn 2 3 b_may_follow
theorem ok_may_follow {P : Program} {w : World} {K : PySem.W.Frag} {mg : Str → Option Value} {base : Heap} (T : Tx K mg) : FnOk P w K mg base CX0 1 T.a_may_follow T.d_may_follow ["entry", "entries"] (spM K (ctT T) m_may_follow) :=
  T.F_may_follow.ok sc_may_follow (fun vs H Q E h => sp_len h) (fun cdv A outer s H vs Q E hr h => ⟨_, (pss_cons (ps_if (PW.pt (pw_and (pt_cmpR (op_neZ (K := K) rfl hr.units) (pv 1) (pe_lst pa_nil) (nomark _)) (pw_and1 (pt_cmpR op_le (pe_ix (ix_Y (K := K) rfl (hu_of hr)) (pv 0) pe_int (fun _ _ => rfl)) (pe_ix (ix_Y (K := K) rfl (hu_of hr)) (pe_ix (ix_Y (K := K) rfl (hu_of hr)) (pv 1) (pe_un un_neg pe_int) (fun _ _ => rfl)) pe_int (fun _ _ => rfl)) (nomark _))))) (pss_one (ps_ret pe_bl)) pss_nil)
      (pss_one (ps_ret (pe_cmpR (op_ninY (K := K) rfl (u65 hr)) (pe_ix (ix_Y (K := K) rfl (hu_of hr)) (pv 0) pe_int (fun _ _ => rfl)) (pe_lc (own := [("other", 2)]) rfl sc_may_follow.nd (pi_listZ (K := K) rfl (pv 1)) (blkOk_by (N := ["entry", "entries", "other"]) (sc := defScope s_may_follow) (by decide +kernel)) (fun _ _ _ _ _ => (pg_name (i := 2) sc_may_follow.nd rfl (by first | exact Or.inl rfl | exact Or.inr rfl))) (fun _ _ _ _ _ => pts_nil) (fun _ _ _ _ _ => (pe_ix (ix_Y (K := K) rfl (hu_of hr)) (pv 2) pe_int (fun _ _ => rfl)))) (by rfl))))),
    fn_run (np := 2) (N := ["entry", "entries", "other"]) (body := b_may_follow) (by unfold b_may_follow; exact (sv_seq (sv_if (et_and (et_tst (ei_op j_neR ei_var (ei_lst ev_nil))) (et_tst (ei_op (j_I0 fun _ _ => cr_bl) (ei_op j_ixY ei_var (ei_c cr_int)) (ei_op j_ixY (ei_op j_ixY ei_var (ei_un j_neg (ei_c cr_int))) (ei_c cr_int))))) (sv_ret (ei_c cr_bl)) sv_next)
      (sv_ret (ei_op j_nin (ei_op j_ixY ei_var (ei_c cr_int)) (ei_lc (ws := [2]) (jw_list ei_var) sg_name (by decide) et_yes (ei_op j_ixY ei_var (ei_c cr_int))))))) h⟩)
@[irreducible] noncomputable def b_read_name : Ms :=
  (mSeq (mAsg 1 (mMethN 0 "number" m_Cursor_number (mName 0) (vCons (mC (.int 1)) vNil)))
  (mSeq (mIfS (mNot (mBl (mChain (fI0 fun i j => .bl (decide (i ≤ j))) (fI0 fun i j => .bl (decide (i ≤ j))) (mC (.int 1)) (mName 1) (mC (.int 12))))) (mRet (mC .non)) mNext)
  (mSeq (mAsg 2 (mLc [3] (mRng1 (aCons (mName 1) aNil)) (tgN 3) mYes (mMethN 0 "number" m_Cursor_number (mName 0) (vCons (mC (.int 1)) vNil))))
  (mSeq (mIfS (mNot (mTru (mCB (fBls fun bs => .bl (bs.all id)) (aCons (mLc [4] (mWL (mName 2)) (tgN 4) mYes (mOp (fInTi id) (mName 4) (mC (.ctp (List.map D.int [45, 46, 48, 49, 50, 51, 52, 53, 54, 55, 56, 57, 97, 98, 99, 100, 101, 102, 103, 104, 105, 106, 107, 108, 109, 110, 111, 112, 113, 114, 115, 116, 117, 118, 119, 120, 121, 122]))))) aNil)))) (mRet (mC .non)) mNext)
  (mRet (mJoin (mC (.str (Str.ofString ""))) (mLc [4] (mWL (mName 2)) (tgN 4) mYes (mOp fIxY (mC (.str (PySem.Str.ofString "-.0123456789abcdefghijklmnopqrstuvwxyz"))) (mTIdx [45, 46, 48, 49, 50, 51, 52, 53, 54, 55, 56, 57, 97, 98, 99, 100, 101, 102, 103, 104, 105, 106, 107, 108, 109, 110, 111, 112, 113, 114, 115, 116, 117, 118, 119, 120, 121, 122] (vCons (mName 4) vNil))))))))))
noncomputable def m_read_name : Mf := mFn 1 5 b_read_name
theorem ok_read_name {P : Program} {w : World} {K : PySem.W.Frag} {mg : Str → Option Value} {base : Heap} (T : Tx K mg) : FnOk P w K mg base CX0 2 T.a_read_name T.d_read_name ["cursor"] (spM K (ctT T) m_read_name) :=
  T.F_read_name.ok sc_read_name (fun vs H Q E h => sp_len h) (fun cdv A outer s H vs Q E hr h => ⟨_, (pss_cons (ps_set (i := 1) sc_read_name.nd rfl (by first | exact Or.inl rfl | exact Or.inr rfl) (pe_methZ (pv 0) T.cl_Cursor T.M_Cursor_number (ok_Cursor_number T) (hr.mono (by decide)) T.b_Cursor_number pass0 (pa_cons pe_int pa_nil)))
      (pss_cons (ps_if (pt_not (pt_chain op_le op_le pe_int (pv 1) (pe_glob rfl T.m_MOST_SIGNS T.r_MOST_SIGNS))) (pss_one (ps_ret pe_non)) pss_nil)
      (pss_cons (ps_setLc (i := 2) (own := [("k", 3)]) rfl sc_read_name.nd rfl rfl (sw_true rfl rfl rfl (by decide +kernel)) (pi_range1 rfl T.z_range (pa_cons (pv 1) pa_nil)) (blkOk_by (N := ["cursor", "many", "told", "k", "byte"]) (sc := defScope s_read_name) (by decide +kernel)) (fun _ _ _ _ _ => (pg_name (i := 3) sc_read_name.nd rfl (by first | exact Or.inl rfl | exact Or.inr rfl))) (fun _ _ _ _ _ => pts_nil) (fun _ _ _ _ _ => (pe_methZ (pv 0) T.cl_Cursor T.M_Cursor_number (ok_Cursor_number T) (hr.mono (by decide)) T.b_Cursor_number pass0 (pa_cons pe_int pa_nil))))
      (pss_cons (ps_if (pt_not (pt_truthZ (K := K) rfl (pe_callB (cr_allZ (K := K) rfl rfl) (by rfl) T.z_all (by decide +kernel) (pa_cons (pe_lc (own := [("byte", 4)]) rfl sc_read_name.nd (pi_listZ (K := K) rfl (pv 2)) (blkOk_by (N := ["cursor", "many", "told", "k", "byte"]) (sc := defScope s_read_name) (by decide +kernel)) (fun _ _ _ _ _ => (pg_name (i := 4) sc_read_name.nd rfl (by first | exact Or.inl rfl | exact Or.inr rfl))) (fun _ _ _ _ _ => pts_nil) (fun _ _ _ _ _ => (pe_cmpR (op_inY (K := K) rfl (u65 hr)) (pv 4) (pe_glob (v := .ref T.u_NAME_BYTES) rfl T.m_NAME_BYTES rfl) (by rfl)))) pa_nil)) (by intro _; rfl))) (pss_one (ps_ret pe_non)) pss_nil)
      (pss_one (ps_ret (pe_joinY (K := K) rfl pe_str (pe_lc (own := [("byte", 4)]) rfl sc_read_name.nd (pi_listZ (K := K) rfl (pv 2)) (blkOk_by (N := ["cursor", "many", "told", "k", "byte"]) (sc := defScope s_read_name) (by decide +kernel)) (fun _ _ _ _ _ => (pg_name (i := 4) sc_read_name.nd rfl (by first | exact Or.inl rfl | exact Or.inr rfl))) (fun _ _ _ _ _ => pts_nil) (fun _ _ _ _ _ => (pe_ix (ix_Y (K := K) rfl (hu_of hr)) (pe_glob rfl T.m_NAME_SIGNS T.r_NAME_SIGNS) (pe_bmZ (K := K) rfl PySem.F.plainAttrs_tuple PySem.F.slot_tuple_index PySem.F.type_tuple_index (mt_tidx (K := K) rfl) (pe_glob (v := .ref T.u_NAME_BYTES) rfl T.m_NAME_BYTES rfl) (pa_cons (pv 4) pa_nil)) (fun _ _ => rfl))))))))))),
    fn_run (np := 1) (N := ["cursor", "many", "told", "k", "byte"]) (body := b_read_name) (by unfold b_read_name; exact (sv_seq (sv_asg (ei_methN (c := 0) ei_var (ev_cons (ei_c cr_int) ev_nil)))
      (sv_seq (sv_if (et_not (et_tst (ei_chain (j_I0 fun _ _ => cr_bl) (j_I0 fun _ _ => cr_bl) (ei_c cr_int) ei_var (ei_c cr_int)))) (sv_ret (ei_c cr_non)) sv_next)
      (sv_seq (sv_asg (ei_lc (ws := [3]) (jw_rng1 (ea_cons ei_var ea_nil)) sg_name (by decide) et_yes (ei_methN (c := 0) ei_var (ev_cons (ei_c cr_int) ev_nil))))
      (sv_seq (sv_if (et_not (et_tru (ei_cb jb_all (ea_cons (ei_lc (ws := [4]) (jw_list ei_var) sg_name (by decide) et_yes (ei_op j_inTi ei_var (ei_c (cr_kt T.r_NAME_BYTES)))) ea_nil)))) (sv_ret (ei_c cr_non)) sv_next)
      (sv_ret (ei_join (ei_c cr_str) (ei_lc (ws := [4]) (jw_list ei_var) sg_name (by decide) et_yes (ei_op j_ixY (ei_c cr_str) (ei_tidx T.r_NAME_BYTES T.dn_NAME_BYTES (ev_cons ei_var ev_nil))))))))))) h⟩)
@[irreducible] noncomputable def b_read_entry : Ms :=
  (mSeq (mAsg 1 (mMethN 0 "number" m_Cursor_number (mName 0) (vCons (mC (.int 1)) vNil)))
  (mSeq (mAsg 2 (mCallN m_read_name (vCons (mName 0) vNil)))
  (mSeq (mIfS (mOr (mTru (mFld (fun c => c == 0) "short" (mName 0))) (mOr (mBl (mOp fIs (mName 2) (mC .non))) (mBl (mOp (fI0 fun i j => .bl (decide (j < i))) (mName 1) (mC (.int 254)))))) (mRet (mC .non)) mNext)
  (mSeq (mAsg 3 (mMethN 0 "number" m_Cursor_number (mName 0) (vCons (mC (.int 1)) vNil)))
  (mSeq (mAsg 4 (mMethN 0 "number" m_Cursor_number (mName 0) (vCons (mC (.int 2)) vNil)))
  (mSeq (mAsgK 5 (mLc [6] (mRng1 (aCons (mName 3) aNil)) (tgN 6) mYes (mMethN 0 "number" m_Cursor_number (mName 0) (vCons (mC (.int 3)) vNil))))
  (mSeq (mIfS (mOr (mTru (mFld (fun c => c == 0) "short" (mName 0))) (mOr (mBl (mOp fEq (mName 3) (mC (.int 0)))) (mOr (mBl (mOp (fI0 fun i j => .bl (decide (j < i))) (mName 3) (mOp fAdd (mC (.int 254)) (mC (.int 1))))) (mBl (mOp (fI0 fun i j => .bl (decide (j < i))) (mName 4) (mOp fMul (mC (.int 255)) (mName 3))))))) (mRet (mC .non)) mNext)
  (mRet (mTup (vCons (mName 1) (vCons (mName 2) (vCons (mName 4) (vCons (mName 5) vNil)))))))))))))
noncomputable def m_read_entry : Mf := mFn 1 7 b_read_entry
theorem ok_read_entry {P : Program} {w : World} {K : PySem.W.Frag} {mg : Str → Option Value} {base : Heap} (T : Tx K mg) : FnOk P w K mg base CX0 3 T.a_read_entry T.d_read_entry ["cursor"] (spM K (ctT T) m_read_entry) :=
  T.F_read_entry.ok sc_read_entry (fun vs H Q E h => sp_len h) (fun cdv A outer s H vs Q E hr h => ⟨_, (pss_cons (ps_set (i := 1) sc_read_entry.nd rfl (by first | exact Or.inl rfl | exact Or.inr rfl) (pe_methZ (pv 0) T.cl_Cursor T.M_Cursor_number (ok_Cursor_number T) (hr.mono (by decide)) T.b_Cursor_number pass0 (pa_cons pe_int pa_nil)))
      (pss_cons (ps_set (i := 2) sc_read_entry.nd rfl (by first | exact Or.inl rfl | exact Or.inr rfl) (pe_callZ (ok_read_name T) (hr.mono (by decide)) (by rfl) T.g_read_name T.F_read_name.kp T.b_read_name pass0 (pa_cons (pv 0) pa_nil)))
      (pss_cons (ps_if (PW.pt (pw_or (pt_truthZ (K := K) rfl (pe_fldZ (K := K) rfl (pv 0) rfl) (by intro _; rfl)) (pw_or (pt_cmpR op_isZ (pv 2) pe_non (nomark _)) (pw_or1 (pt_cmpR op_gt (pv 1) (pe_glob rfl T.m_MOST_NUMBER T.r_MOST_NUMBER) (nomark _)))))) (pss_one (ps_ret pe_non)) pss_nil)
      (pss_cons (ps_set (i := 3) sc_read_entry.nd rfl (by first | exact Or.inl rfl | exact Or.inr rfl) (pe_methZ (pv 0) T.cl_Cursor T.M_Cursor_number (ok_Cursor_number T) (hr.mono (by decide)) T.b_Cursor_number pass0 (pa_cons pe_int pa_nil)))
      (pss_cons (ps_set (i := 4) sc_read_entry.nd rfl (by first | exact Or.inl rfl | exact Or.inr rfl) (pe_methZ (pv 0) T.cl_Cursor T.M_Cursor_number (ok_Cursor_number T) (hr.mono (by decide)) T.b_Cursor_number pass0 (pa_cons pe_int pa_nil)))
      (pss_cons (ps_setLc (i := 5) (own := [("k", 6)]) rfl sc_read_entry.nd rfl rfl (sw_true rfl rfl rfl (by decide +kernel)) (pi_range1 rfl T.z_range (pa_cons (pv 3) pa_nil)) (blkOk_by (N := ["cursor", "text", "name", "many", "length", "places", "k"]) (sc := defScope s_read_entry) (by decide +kernel)) (fun _ _ _ _ _ => (pg_name (i := 6) sc_read_entry.nd rfl (by first | exact Or.inl rfl | exact Or.inr rfl))) (fun _ _ _ _ _ => pts_nil) (fun _ _ _ _ _ => (pe_methZ (pv 0) T.cl_Cursor T.M_Cursor_number (ok_Cursor_number T) (hr.mono (by decide)) T.b_Cursor_number pass0 (pa_cons pe_int pa_nil))))
      (pss_cons (ps_if (PW.pt (pw_or (pt_truthZ (K := K) rfl (pe_fldZ (K := K) rfl (pv 0) rfl) (by intro _; rfl)) (pw_or (pt_cmpR (op_eqZ (K := K) rfl hr.units) (pv 3) pe_int (nomark _)) (pw_or (pt_cmpR op_gt (pv 3) (pe_op (op_addZ (K := K) rfl) (pe_glob rfl T.m_MOST_NUMBER T.r_MOST_NUMBER) pe_int) (nomark _)) (pw_or1 (pt_cmpR op_gt (pv 4) (pe_op op_mulZ pe_int (pv 3)) (nomark _))))))) (pss_one (ps_ret pe_non)) pss_nil)
      (pss_one (ps_ret (pe_tup (pa_cons (pv 1) (pa_cons (pv 2) (pa_cons (pv 4) (pa_cons (pv 5) pa_nil)))))))))))))),
    fn_run (np := 1) (N := ["cursor", "text", "name", "many", "length", "places", "k"]) (body := b_read_entry) (by unfold b_read_entry; exact (sv_seq (sv_asg (ei_methN (c := 0) ei_var (ev_cons (ei_c cr_int) ev_nil)))
      (sv_seq (sv_asg (ei_callN (ev_cons ei_var ev_nil)))
      (sv_seq (sv_if (et_or (et_tru (ei_fld (ok := (fun c => c == 0)) (okc1 ⟨T.cl_Cursor, T.n_Cursor_short⟩) ei_var)) (et_or (et_tst (ei_op j_is ei_var (ei_c cr_non))) (et_tst (ei_op (j_I0 fun _ _ => cr_bl) ei_var (ei_c cr_int))))) (sv_ret (ei_c cr_non)) sv_next)
      (sv_seq (sv_asg (ei_methN (c := 0) ei_var (ev_cons (ei_c cr_int) ev_nil)))
      (sv_seq (sv_asg (ei_methN (c := 0) ei_var (ev_cons (ei_c cr_int) ev_nil)))
      (sv_seq (sv_asgK (ei_lc (ws := [6]) (jw_rng1 (ea_cons ei_var ea_nil)) sg_name (by decide) et_yes (ei_methN (c := 0) ei_var (ev_cons (ei_c cr_int) ev_nil))))
      (sv_seq (sv_if (et_or (et_tru (ei_fld (ok := (fun c => c == 0)) (okc1 ⟨T.cl_Cursor, T.n_Cursor_short⟩) ei_var)) (et_or (et_tst (ei_op j_eq ei_var (ei_c cr_int))) (et_or (et_tst (ei_op (j_I0 fun _ _ => cr_bl) ei_var (ei_op j_add (ei_c cr_int) (ei_c cr_int)))) (et_tst (ei_op (j_I0 fun _ _ => cr_bl) ei_var (ei_op j_mul (ei_c cr_int) ei_var)))))) (sv_ret (ei_c cr_non)) sv_next)
      (sv_ret (ei_tup (ev_cons ei_var (ev_cons ei_var (ev_cons ei_var (ev_cons ei_var ev_nil)))))))))))))) h⟩)
@[irreducible] noncomputable def b_book_at : Ms :=
  (mSeq (mAsg 2 (mMakeN 0 m_Cursor_init [] (vCons (mName 0) (vCons (mOp fAdd (mName 1) (mC (.int 2))) vNil))))
  (mSeq (mIfS (mBl (mOp fNe (mSl (mName 0) (oSm (mName 1)) (oSm (mOp fAdd (mName 1) (mC (.int 2))))) (mC (.clst (List.map D.int [165, 91]))))) (mRet (mC .non)) mNext)
  (mSeq (mAsg 3 (mMethN 0 "number" m_Cursor_number (mName 2) (vCons (mC (.int 1)) vNil)))
  (mSeq (mAsgK 4 (mLst vNil))
  (mSeq (mIfS (mOr (mTru (mFld (fun c => c == 0) "short" (mName 2))) (mBl (mOp (fI0 fun i j => .bl (decide (j < i))) (mName 3) (mC (.int 30))))) (mRet (mC .non)) mNext)
  (mSeq (mFor (mRng1 (aCons (mName 3) aNil)) (tgN 5) (mSeq (mAsg 6 (mCallN m_read_entry (vCons (mName 2) vNil)))
  (mSeq (mIfS (mOr (mBl (mOp fIs (mName 6) (mC .non))) (mNot (mTru (mCallN m_may_follow (vCons (mName 6) (vCons (mName 4) vNil)))))) (mRet (mC .non)) mNext)
  (mDrop (mBM fApp (mName 4) (vCons (mName 6) vNil))))))
  (mSeq (mAsg 7 (mFld (fun c => c == 0) "spot" (mName 2)))
  (mSeq (mIfS (mBl (mOp fNe (mCB fList (aCons (mSl (mName 0) (oSm (mName 7)) (oSm (mOp fAdd (mName 7) (mC (.int 2))))) aNil)) (mCallN m_crc_row (vCons (mSl (mName 0) (oSm (mOp fAdd (mName 1) (mC (.int 2)))) (oSm (mName 7))) vNil)))) (mRet (mC .non)) mNext)
  (mRet (mTup (vCons (mName 4) (vCons (mOp fAdd (mName 7) (mC (.int 2))) vNil))))))))))))
noncomputable def m_book_at : Mf := mFn 2 8 b_book_at
theorem ok_book_at {P : Program} {w : World} {K : PySem.W.Frag} {mg : Str → Option Value} {base : Heap} (T : Tx K mg) : FnOk P w K mg base CX0 4 T.a_book_at T.d_book_at ["row", "place"] (spM K (ctT T) m_book_at) :=
  T.F_book_at.ok sc_book_at (fun vs H Q E h => sp_len h) (fun cdv A outer s H vs Q E hr h => ⟨_, (pss_cons (ps_set (i := 2) sc_book_at.nd rfl (by first | exact Or.inl rfl | exact Or.inr rfl) (pe_make T.K_Cursor (ok_Cursor_init T) (hr.mono (by decide)) (by rfl) T.g_Cursor T.b_Cursor_init .nil pass0 (pa_cons (pv 0) (pa_cons (pe_op (op_addZ (K := K) rfl) (pv 1) pe_int) pa_nil))))
      (pss_cons (ps_if (pt_cmpR (op_neZ (K := K) rfl hr.units) (pe_slice (sl_Z (K := K) rfl) (pv 0) (po_some (pv 1)) (po_some (pe_op (op_addZ (K := K) rfl) (pv 1) pe_int))) (pe_glob (v := .ref T.u_MARK) rfl T.m_MARK rfl) (nomark _)) (pss_one (ps_ret pe_non)) pss_nil)
      (pss_cons (ps_set (i := 3) sc_book_at.nd rfl (by first | exact Or.inl rfl | exact Or.inr rfl) (pe_methZ (pv 2) T.cl_Cursor T.M_Cursor_number (ok_Cursor_number T) (hr.mono (by decide)) T.b_Cursor_number pass0 (pa_cons pe_int pa_nil)))
      (pss_cons (ps_set (i := 4) sc_book_at.nd rfl (by first | exact Or.inl rfl | exact Or.inr rfl) (pe_lst pa_nil))
      (pss_cons (ps_if (PW.pt (pw_or (pt_truthZ (K := K) rfl (pe_fldZ (K := K) rfl (pv 2) rfl) (by intro _; rfl)) (pw_or1 (pt_cmpR op_gt (pv 3) (pe_glob rfl T.m_MOST_ENTRIES T.r_MOST_ENTRIES) (nomark _))))) (pss_one (ps_ret pe_non)) pss_nil)
      (pss_cons (ps_for PassesOwn.never rfl (pi_range1 rfl T.z_range (pa_cons (pv 3) pa_nil)) (pg_name (i := 5) sc_book_at.nd rfl (by first | exact Or.inl rfl | exact Or.inr rfl)) (pss_cons (ps_set (i := 6) sc_book_at.nd rfl (by first | exact Or.inl rfl | exact Or.inr rfl) (pe_callZ (ok_read_entry T) (hr.mono (by decide)) (by rfl) T.g_read_entry T.F_read_entry.kp T.b_read_entry pass0 (pa_cons (pv 2) pa_nil)))
      (pss_cons (ps_if (PW.pt (pw_or (pt_cmpR op_isZ (pv 6) pe_non (nomark _)) (pw_or1 (pt_not (pt_truthZ (K := K) rfl (pe_callZ (ok_may_follow T) (hr.mono (by decide)) (by rfl) T.g_may_follow T.F_may_follow.kp T.b_may_follow pass0 (pa_cons (pv 6) (pa_cons (pv 4) pa_nil))) (by intro _; rfl)))))) (pss_one (ps_ret pe_non)) pss_nil)
      (pss_one (ps_expr (pe_bmZ (K := K) rfl PySem.F.plainAttrs_list PySem.F.slot_list_append PySem.F.type_list_append mt_append (pv 4) (pa_cons (pv 6) pa_nil)))))))
      (pss_cons (ps_set (i := 7) sc_book_at.nd rfl (by first | exact Or.inl rfl | exact Or.inr rfl) (pe_fldZ (K := K) rfl (pv 2) rfl))
      (pss_cons (ps_if (pt_cmpR (op_neZ (K := K) rfl hr.units) (pe_callTy (call_listZ (K := K) rfl) (by rfl) T.z_list (by decide +kernel) (pa_cons (pe_slice (sl_Z (K := K) rfl) (pv 0) (po_some (pv 7)) (po_some (pe_op (op_addZ (K := K) rfl) (pv 7) pe_int))) pa_nil)) (pe_callZ (ok_crc_row T) (hr.mono (by decide)) (by rfl) T.g_crc_row T.F_crc_row.kp T.b_crc_row pass0 (pa_cons (pe_slice (sl_Z (K := K) rfl) (pv 0) (po_some (pe_op (op_addZ (K := K) rfl) (pv 1) pe_int)) (po_some (pv 7))) pa_nil)) (nomark _)) (pss_one (ps_ret pe_non)) pss_nil)
      (pss_one (ps_ret (pe_tup (pa_cons (pv 4) (pa_cons (pe_op (op_addZ (K := K) rfl) (pv 7) pe_int) pa_nil))))))))))))),
    fn_run (np := 2) (N := ["row", "place", "cursor", "many", "entries", "k", "entry", "behind"]) (body := b_book_at) (by unfold b_book_at; exact (sv_seq (sv_asg (ei_makeN (c := 0) (dds := []) crl_nil (ev_cons ei_var (ev_cons (ei_op j_add ei_var (ei_c cr_int)) ev_nil))))
      (sv_seq (sv_if (et_tst (ei_op j_ne (ei_sl ei_var (eo_sm ei_var) (eo_sm (ei_op j_add ei_var (ei_c cr_int)))) (ei_c (cr_kl T.r_MARK)))) (sv_ret (ei_c cr_non)) sv_next)
      (sv_seq (sv_asg (ei_methN (c := 0) ei_var (ev_cons (ei_c cr_int) ev_nil)))
      (sv_seq (sv_asgK (ei_lst ev_nil))
      (sv_seq (sv_if (et_or (et_tru (ei_fld (ok := (fun c => c == 0)) (okc1 ⟨T.cl_Cursor, T.n_Cursor_short⟩) ei_var)) (et_tst (ei_op (j_I0 fun _ _ => cr_bl) ei_var (ei_c cr_int)))) (sv_ret (ei_c cr_non)) sv_next)
      (sv_seq (sv_for (jw_rng1 (ea_cons ei_var ea_nil)) sg_name (sv_seq (sv_asg (ei_callN (ev_cons ei_var ev_nil)))
      (sv_seq (sv_if (et_or (et_tst (ei_op j_is ei_var (ei_c cr_non))) (et_not (et_tru (ei_callN (ev_cons ei_var (ev_cons ei_var ev_nil)))))) (sv_ret (ei_c cr_non)) sv_next)
      (sv_drop (ei_bm jm_app ei_var (ev_cons ei_var ev_nil))))))
      (sv_seq (sv_asg (ei_fld (ok := (fun c => c == 0)) (okc1 ⟨T.cl_Cursor, T.n_Cursor_spot⟩) ei_var))
      (sv_seq (sv_if (et_tst (ei_op j_ne (ei_cb jb_list (ea_cons (ei_sl ei_var (eo_sm ei_var) (eo_sm (ei_op j_add ei_var (ei_c cr_int)))) ea_nil)) (ei_callN (ev_cons (ei_sl ei_var (eo_sm (ei_op j_add ei_var (ei_c cr_int))) (eo_sm ei_var)) ev_nil)))) (sv_ret (ei_c cr_non)) sv_next)
      (sv_ret (ei_tup (ev_cons ei_var (ev_cons (ei_op j_add ei_var (ei_c cr_int)) ev_nil))))))))))))) h⟩)
@[irreducible] noncomputable def b_law : Ms :=
  (mSeq (mFor (mRng1 (aCons (mCB (fI2 min) (aCons (mC (.int 4)) (aCons (mCB fLen (aCons (mName 0) aNil)) aNil))) aNil)) (tgN 1) (mSeq (mAsgK 2 (mCallN m_l_draw (vCons (mOp fIxY (mName 0) (mName 1)) vNil)))
  (mSeq (mAsg 3 (mLst vNil))
  (mSeq (mFor (mRng1 (aCons (mCallN m_l_next (vCons (mName 2) (vCons (mC (.int 9)) vNil))) aNil)) (tgN 4) (mDrop (mBM fApp (mName 3) (vCons (mOp fIxY (mLst (vCons (mC (.int 165)) (vCons (mC (.int 91)) (vCons (mC (.int 0)) (vCons (mC (.int 1)) (vCons (mCallN m_l_next (vCons (mName 2) (vCons (mC (.int 256)) vNil))) vNil)))))) (mCallN m_l_next (vCons (mName 2) (vCons (mC (.int 5)) vNil)))) vNil))))
  (mSeq (mAsg 3 (mOp fAdd (mName 3) (mCallN m_l_spoilt (vCons (mName 2) (vCons (mCallN m_l_entries (vCons (mName 2) (vCons (mOp fIxY (mLst (vCons (mC (.int 60)) (vCons (mC (.int 270)) vNil))) (mCB fInt (aCons (mOp fEq (mName 1) (mC (.int 0))) aNil))) vNil))) vNil)))))
  (mSeq (mAsg 3 (mOp fAdd (mName 3) (mLc [4] (mRng1 (aCons (mCallN m_l_next (vCons (mName 2) (vCons (mC (.int 5)) vNil))) aNil)) (tgN 4) mYes (mOp fIxY (mLst (vCons (mC (.int 165)) (vCons (mC (.int 91)) (vCons (mC (.int 0)) vNil)))) (mCallN m_l_next (vCons (mName 2) (vCons (mC (.int 3)) vNil)))))))
  (mSeq (mAsg 5 (mI (mV (mCB fList (aCons (mName 3) aNil)))))
  (mSeq (mFor (mRng1 (aCons (mOp fAdd (mCB fLen (aCons (mName 3) aNil)) (mC (.int 2))) aNil)) (tgN 6) (mIfS (mBl (mOp fNeR (mCallP m_book_at (vCons (mName 5) (vCons (mName 6) vNil))) (mCallN m_l_due (vCons (mName 3) (vCons (mName 6) vNil))))) (mRet (mC (.bl false))) mNext))
  (mIfS (mBl (mOp fNe (mName 5) (mName 3))) (mRet (mC (.bl false))) mNext)))))))))
  (mRet (mC (.bl true))))
noncomputable def m_law : Mf := mFn 1 7 b_law
theorem ok_law {P : Program} {w : World} {K : PySem.W.Frag} {mg : Str → Option Value} {base : Heap} (T : Tx K mg) : FnOk P w K mg base CX0 5 T.a_law T.d_law ["_law_script"] (spM K (ctT T) m_law) :=
  T.F_law.ok sc_law (fun vs H Q E h => sp_len h) (fun cdv A outer s H vs Q E hr h => ⟨_, (pss_cons (ps_for PassesOwn.never rfl (pi_range1 rfl T.z_range (pa_cons (pe_callB (call_min2Z rfl) (by rfl) T.z_min (by decide +kernel) (pa_cons pe_int (pa_cons (pe_callB (call_lenY (K := K) rfl) (by rfl) T.z_len PySem.boot_len (pa_cons (pv 0) pa_nil)) pa_nil))) pa_nil)) (pg_name (i := 1) sc_law.nd rfl (by first | exact Or.inl rfl | exact Or.inr rfl)) (pss_cons (ps_set (i := 2) sc_law.nd rfl (by first | exact Or.inl rfl | exact Or.inr rfl) (pe_callZ (ok_l_draw T) (hr.mono (by decide)) (by rfl) T.g_l_draw T.F_l_draw.kp T.b_l_draw pass0 (pa_cons (pe_ix (ix_Y (K := K) rfl (hu_of hr)) (pv 0) (pv 1) (fun _ _ => rfl)) pa_nil)))
      (pss_cons (ps_set (i := 3) sc_law.nd rfl (by first | exact Or.inl rfl | exact Or.inr rfl) (pe_lst pa_nil))
      (pss_cons (ps_for PassesOwn.never rfl (pi_range1 rfl T.z_range (pa_cons (pe_callZ (ok_l_next T) (hr.mono (by decide)) (by rfl) T.g_l_next T.F_l_next.kp T.b_l_next pass0 (pa_cons (pv 2) (pa_cons pe_int pa_nil))) pa_nil)) (pg_name (i := 4) sc_law.nd rfl (by first | exact Or.inl rfl | exact Or.inr rfl)) (pss_one (ps_expr (pe_bmZ (K := K) rfl PySem.F.plainAttrs_list PySem.F.slot_list_append PySem.F.type_list_append mt_append (pv 3) (pa_cons (pe_ix (ix_Y (K := K) rfl (hu_of hr)) (pe_lst (pa_cons pe_int (pa_cons pe_int (pa_cons pe_int (pa_cons pe_int (pa_cons (pe_callZ (ok_l_next T) (hr.mono (by decide)) (by rfl) T.g_l_next T.F_l_next.kp T.b_l_next pass0 (pa_cons (pv 2) (pa_cons pe_int pa_nil))) pa_nil)))))) (pe_callZ (ok_l_next T) (hr.mono (by decide)) (by rfl) T.g_l_next T.F_l_next.kp T.b_l_next pass0 (pa_cons (pv 2) (pa_cons pe_int pa_nil))) (fun _ _ => rfl)) pa_nil)))))
      (pss_cons (ps_set (i := 3) sc_law.nd rfl (by first | exact Or.inl rfl | exact Or.inr rfl) (pe_op (op_addZ (K := K) rfl) (pv 3) (pe_callZ (ok_l_spoilt T) (hr.mono (by decide)) (by rfl) T.g_l_spoilt T.F_l_spoilt.kp T.b_l_spoilt pass0 (pa_cons (pv 2) (pa_cons (pe_callZ (ok_l_entries T) (hr.mono (by decide)) (by rfl) T.g_l_entries T.F_l_entries.kp T.b_l_entries pass0 (pa_cons (pv 2) (pa_cons (pe_ix (ix_Y (K := K) rfl (hu_of hr)) (pe_lst (pa_cons pe_int (pa_cons pe_int pa_nil))) (pe_callTy (call_intY) (by rfl) T.z_int (by decide +kernel) (pa_cons (pe_cmpR (op_eqZ (K := K) rfl hr.units) (pv 1) pe_int (nomark _)) pa_nil)) (fun _ _ => rfl)) pa_nil))) pa_nil)))))
      (pss_cons (ps_set (i := 3) sc_law.nd rfl (by first | exact Or.inl rfl | exact Or.inr rfl) (pe_op (op_addZ (K := K) rfl) (pv 3) (pe_lc (own := [("_law_j", 4)]) rfl sc_law.nd (pi_range1 rfl T.z_range (pa_cons (pe_callZ (ok_l_next T) (hr.mono (by decide)) (by rfl) T.g_l_next T.F_l_next.kp T.b_l_next pass0 (pa_cons (pv 2) (pa_cons pe_int pa_nil))) pa_nil)) (blkOk_by (N := ["_law_script", "_law_k", "_law_draw_here", "_law_row", "_law_j", "_law_handed", "_law_place"]) (sc := defScope s_law) (by decide +kernel)) (fun _ _ _ _ _ => (pg_name (i := 4) sc_law.nd rfl (by first | exact Or.inl rfl | exact Or.inr rfl))) (fun _ _ _ _ _ => pts_nil) (fun _ _ _ _ _ => (pe_ix (ix_Y (K := K) rfl (hu_of hr)) (pe_lst (pa_cons pe_int (pa_cons pe_int (pa_cons pe_int pa_nil)))) (pe_callZ (ok_l_next T) (hr.mono (by decide)) (by rfl) T.g_l_next T.F_l_next.kp T.b_l_next pass0 (pa_cons (pv 2) (pa_cons pe_int pa_nil))) (fun _ _ => rfl))))))
      (pss_cons (ps_set (i := 5) sc_law.nd rfl (by first | exact Or.inl rfl | exact Or.inr rfl) (pe_callTy (call_listZ (K := K) rfl) (by rfl) T.z_list (by decide +kernel) (pa_cons (pv 3) pa_nil)))
      (pss_cons (ps_for PassesOwn.never rfl (pi_range1 rfl T.z_range (pa_cons (pe_op (op_addZ (K := K) rfl) (pe_callB (call_lenY (K := K) rfl) (by rfl) T.z_len PySem.boot_len (pa_cons (pv 3) pa_nil)) pe_int) pa_nil)) (pg_name (i := 6) sc_law.nd rfl (by first | exact Or.inl rfl | exact Or.inr rfl)) (pss_one (ps_if (pt_cmpR (op_neZ (K := K) rfl hr.units) (pe_callZ (ok_book_at T) (hr.mono (by decide)) (by rfl) T.g_book_at T.F_book_at.kp T.b_book_at pass0 (pa_cons (pv 5) (pa_cons (pv 6) pa_nil))) (pe_callZ (ok_l_due T) (hr.mono (by decide)) (by rfl) T.g_l_due T.F_l_due.kp T.b_l_due pass0 (pa_cons (pv 3) (pa_cons (pv 6) pa_nil))) (nomark _)) (pss_one (ps_ret pe_bl)) pss_nil)))
      (pss_one (ps_if (pt_cmpR (op_neZ (K := K) rfl hr.units) (pv 5) (pv 3) (nomark _)) (pss_one (ps_ret pe_bl)) pss_nil))))))))))
      (pss_one (ps_ret pe_bl))),
    fn_run (np := 1) (N := ["_law_script", "_law_k", "_law_draw_here", "_law_row", "_law_j", "_law_handed", "_law_place"]) (body := b_law) (by unfold b_law; exact (sv_seq (sv_for (jw_rng1 (ea_cons (ei_cb jb_min2 (ea_cons (ei_c cr_int) (ea_cons (ei_cb jb_len (ea_cons ei_var ea_nil)) ea_nil))) ea_nil)) sg_name (sv_seq (sv_asgK (ei_callN (ev_cons (ei_op j_ixY ei_var ei_var) ev_nil)))
      (sv_seq (sv_asg (ei_lst ev_nil))
      (sv_seq (sv_for (jw_rng1 (ea_cons (ei_callN (ev_cons ei_var (ev_cons (ei_c cr_int) ev_nil))) ea_nil)) sg_name (sv_drop (ei_bm jm_app ei_var (ev_cons (ei_op j_ixY (ei_lst (ev_cons (ei_c cr_int) (ev_cons (ei_c cr_int) (ev_cons (ei_c cr_int) (ev_cons (ei_c cr_int) (ev_cons (ei_callN (ev_cons ei_var (ev_cons (ei_c cr_int) ev_nil))) ev_nil)))))) (ei_callN (ev_cons ei_var (ev_cons (ei_c cr_int) ev_nil)))) ev_nil))))
      (sv_seq (sv_asg (ei_op j_add ei_var (ei_callN (ev_cons ei_var (ev_cons (ei_callN (ev_cons ei_var (ev_cons (ei_op j_ixY (ei_lst (ev_cons (ei_c cr_int) (ev_cons (ei_c cr_int) ev_nil))) (ei_cb jb_int (ea_cons (ei_op j_eq ei_var (ei_c cr_int)) ea_nil))) ev_nil))) ev_nil)))))
      (sv_seq (sv_asg (ei_op j_add ei_var (ei_lc (ws := [4]) (jw_rng1 (ea_cons (ei_callN (ev_cons ei_var (ev_cons (ei_c cr_int) ev_nil))) ea_nil)) sg_name (by decide) et_yes (ei_op j_ixY (ei_lst (ev_cons (ei_c cr_int) (ev_cons (ei_c cr_int) (ev_cons (ei_c cr_int) ev_nil)))) (ei_callN (ev_cons ei_var (ev_cons (ei_c cr_int) ev_nil)))))))
      (sv_seq (sv_asg (ei_of (ev_of (ei_cb jb_list (ea_cons ei_var ea_nil)))))
      (sv_seq (sv_for (jw_rng1 (ea_cons (ei_op j_add (ei_cb jb_len (ea_cons ei_var ea_nil)) (ei_c cr_int)) ea_nil)) sg_name (sv_if (et_tst (ei_op j_neR (ei_callP (ev_cons ei_var (ev_cons ei_var ev_nil))) (ei_callN (ev_cons ei_var (ev_cons ei_var ev_nil))))) (sv_ret (ei_c cr_bl)) sv_next))
      (sv_if (et_tst (ei_op j_ne ei_var ei_var)) (sv_ret (ei_c cr_bl)) sv_next)))))))))
      (sv_ret (ei_c cr_bl)))) h⟩)
/-! ### the sum, in plain Lean -/
def cstp (f : Nat) : Nat := if f &&& 32768 = 0 then f * 2 else ((f ^^^ 32768) * 2) ^^^ 4129
def citr : Nat → Nat → Nat
  | 0, x => x
  | n + 1, x => cstp (citr n x)
def byt8 (f : Nat) (b : Int) : Nat := citr 8 (f ^^^ (b.toNat * 256))
def crcN (f : Nat) (ns : List Int) : Nat := ns.foldl byt8 f
theorem bit_top (i : Nat) : (32768 : Nat).testBit i = decide (15 = i) := Nat.testBit_two_pow (n := 15) (m := i)
theorem top_zero (f : Nat) : f &&& 32768 = 0 ↔ f.testBit 15 = false := by
  constructor
  · intro h
    have e : (f &&& 32768).testBit 15 = (0 : Nat).testBit 15 := by rw [h]
    rw [Nat.testBit_and, bit_top] at e
    simpa using e
  · intro h
    refine Nat.eq_of_testBit_eq fun i => ?_
    rw [Nat.testBit_and, bit_top, Nat.zero_testBit]
    by_cases e : 15 = i
    · subst e; rw [h] <;> rfl
    · simp [e]
theorem bit_mul2 (x i : Nat) : (x * 2).testBit i = (decide (1 ≤ i) && x.testBit (i - 1)) := by
  have e : x * 2 = x <<< 1 := by rw [Nat.shiftLeft_eq]
  rw [e, Nat.testBit_shiftLeft]
theorem hi_false {f n i : Nat} (h : f < 2 ^ n) (hi : n ≤ i) : f.testBit i = false := Nat.testBit_lt_two_pow (Nat.lt_of_lt_of_le h (Nat.pow_le_pow_right (by decide) hi))
theorem cstp_bit {f : Nat} (hf : f < 2 ^ 16) (i : Nat) : (cstp f).testBit i = ((decide (1 ≤ i ∧ i < 16) && f.testBit (i - 1)) ^^ (f.testBit 15 && (4129 : Nat).testBit i)) := by
  unfold cstp
  by_cases h : f &&& 32768 = 0
  · rw [if_pos h, bit_mul2]
    have ht := (top_zero f).mp h
    rw [ht]
    by_cases h16 : i < 16
    · simp [h16]
    · have : f.testBit (i - 1) = false := by
        by_cases e : i = 16
        · subst e; exact ht
        · exact hi_false hf (by omega)
      simp [this]
  · rw [if_neg h, Nat.testBit_xor, bit_mul2, Nat.testBit_xor, bit_top]
    have ht : f.testBit 15 = true := by
      cases q : f.testBit 15 with
      | true => rfl
      | false => exact absurd ((top_zero f).mpr q) h
    rw [ht]
    by_cases h1 : 1 ≤ i
    · by_cases h16 : i < 16
      · have : ¬ 15 = i - 1 := by omega
        simp [h1, h16, this]
      · by_cases e : i = 16
        · subst e; simp [ht]
        · have q : f.testBit (i - 1) = false := hi_false hf (by omega)
          have : ¬ 15 = i - 1 := by omega
          simp [h16, q, this]
    · simp [h1]
theorem lt_of_bits {x n : Nat} (h : ∀ i, n ≤ i → x.testBit i = false) : x < 2 ^ n := Nat.lt_pow_two_of_testBit x h
theorem feed_hi {i : Nat} (h : 16 ≤ i) : (4129 : Nat).testBit i = false := hi_false (n := 16) (by decide) h
theorem cstp_lt {f : Nat} (hf : f < 2 ^ 16) : cstp f < 2 ^ 16 := lt_of_bits fun i hi => by
  rw [cstp_bit hf, feed_hi hi]
  have : ¬ i < 16 := by omega
  simp [this]
theorem citr_lt {f : Nat} (hf : f < 2 ^ 16) : ∀ n, citr n f < 2 ^ 16
  | 0 => hf
  | n + 1 => cstp_lt (citr_lt hf n)
theorem xor_byte_lt {f : Nat} {b : Int} (hf : f < 2 ^ 16) (hb : 0 ≤ b ∧ b < 256) : f ^^^ (b.toNat * 256) < 2 ^ 16 := Nat.xor_lt_two_pow hf (by omega)
theorem byt8_lt {f : Nat} {b : Int} (hf : f < 2 ^ 16) (hb : 0 ≤ b ∧ b < 256) : byt8 f b < 2 ^ 16 := citr_lt (xor_byte_lt hf hb) 8
theorem crcN_lt : ∀ {ns : List Int} {f : Nat}, f < 2 ^ 16 → Z.Byt ns → crcN f ns < 2 ^ 16
  | [], _, hf, _ => hf
  | b :: ns, f, hf, hb => crcN_lt (ns := ns) (byt8_lt hf (hb b (List.mem_cons_self))) fun n h => hb n (List.mem_cons_of_mem _ h)
theorem crcN_app (f : Nat) (xs ys : List Int) : crcN f (xs ++ ys) = crcN (crcN f xs) ys := List.foldl_append
theorem take_more {α : Type} {l : List α} {i : Nat} {x : α} (h : l[i]? = some x) : l.take (i + 1) = l.take i ++ [x] := by rw [List.take_add_one, h] <;> rfl
theorem crcN_more {ns : List Int} {i : Nat} {b : Int} {f : Nat} (h : ns[i]? = some b) : crcN f (ns.take (i + 1)) = byt8 (crcN f (ns.take i)) b := by
  rw [take_more h, crcN_app] <;> rfl
theorem byt_take {ns : List Int} {i : Nat} (h : Z.Byt ns) : Z.Byt (ns.take i) := fun n hn => h n (List.mem_of_mem_take hn)
theorem byt_at {ns : List Int} {i : Nat} {b : Int} (h : Z.Byt ns) (e : ns[i]? = some b) : 0 ≤ b ∧ b < 256 := h b (List.mem_of_getElem? e)
theorem cstp_int0 {x : Nat} (h : Builtin.bitAnd (x : Int) 32768 = 0) : (x : Int) * 2 ^ (1 : Int).toNat = ((cstp x : Nat) : Int) := by
  have e : Builtin.bitAnd (x : Int) 32768 = ((x &&& 32768 : Nat) : Int) := Z.and_nat x 32768
  rw [e] at h
  have h' : x &&& 32768 = 0 := by omega
  unfold cstp
  rw [if_pos h']
  simp
theorem cstp_int1 {x : Nat} (h : ¬ Builtin.bitAnd (x : Int) 32768 = 0) : Builtin.bitXor (Builtin.bitXor (x : Int) 32768 * 2 ^ (1 : Int).toNat) 4129 = ((cstp x : Nat) : Int) := by
  have e : Builtin.bitAnd (x : Int) 32768 = ((x &&& 32768 : Nat) : Int) := Z.and_nat x 32768
  rw [e] at h
  have h' : ¬ x &&& 32768 = 0 := by omega
  have e1 : Builtin.bitXor (x : Int) 32768 = ((x ^^^ 32768 : Nat) : Int) := Z.xor_nat x 32768
  have e2 : ((x ^^^ 32768 : Nat) : Int) * 2 ^ (1 : Int).toNat = (((x ^^^ 32768) * 2 : Nat) : Int) := by simp
  have e3 : Builtin.bitXor (((x ^^^ 32768) * 2 : Nat) : Int) 4129 = ((((x ^^^ 32768) * 2) ^^^ 4129 : Nat) : Int) := Z.xor_nat _ 4129
  unfold cstp
  rw [if_neg h', e1, e2, e3]
theorem byte_int {f : Nat} {b : Int} (hb : 0 ≤ b ∧ b < 256) : Builtin.bitXor (f : Int) (b * 2 ^ (8 : Int).toNat) = ((f ^^^ (b.toNat * 256) : Nat) : Int) := by
  have e : b * 2 ^ (8 : Int).toNat = ((b.toNat * 256 : Nat) : Int) := by
    have : ((8 : Int).toNat) = 8 := rfl
    rw [this]
    omega
  rw [e]
  exact Z.xor_nat _ _

/-! ### the sum, walked -/
theorem shl_nat {x : Nat} {j : Int} {m : Nat} (hx : x < 2 ^ m) (hm : m ≤ 1000000) (h0 : 0 ≤ j) (h1 : j ≤ 1000000) : CShl (x : Int) j := cshl_N (m := m) (by omega) hm h0 h1
theorem shl_byte {b : Int} (hb : 0 ≤ b ∧ b < 256) : CShl b 8 := cshl_N (m := 8) (by have : (2 : Nat) ^ 8 = 256 := rfl; omega) (by decide) (by decide) (by decide)
theorem stp0 {x : Nat} (h : Builtin.bitAnd (x : Int) 32768 = 0) : (x : Int) * 2 ^ (1 : Int).toNat = ((cstp x : Nat) : Int) := cstp_int0 h
theorem stp1 {x : Nat} (h : ¬ Builtin.bitAnd (x : Int) 32768 = 0) : Builtin.bitXor (Builtin.bitXor (x : Int) 32768 * 2 ^ (1 : Int).toNat) 4129 = ((cstp x : Nat) : Int) := cstp_int1 h
theorem crc_on_ok {ns : List Int} {f : Nat} (hf : f < 2 ^ 16) (hb : Z.Byt ns) (M : List Cn) : m_crc_on [.int (f : Int), .lst (ns.map D.int)] M = .ok (.val (.int (crcN f ns : Nat))) M := by
  refine fo_ok (P := fun _ _ => True) ?_
  walk_at "f0"; unfold b_crc_on
  walk_at "w"
  refine w_forN (fun i s => ∃ e3 e4 : Option Ent, s = ⟨[some (.fz (.int (f : Int))), some (.fz (.lst (ns.map D.int))), some (.fz (.int (crcN f (ns.take i) : Nat))), e3, e4], M⟩) ⟨_, _, rfl⟩ ?_ ?_
  · rintro i y s hi ⟨e3, e4, rfl⟩
    obtain ⟨b, hbi, rfl⟩ := map_get hi
    have hbb := byt_at hb hbi
    have hlt := crcN_lt (ns := ns.take i) hf (byt_take hb)
    rw [crcN_more hbi]
    generalize crcN f (ns.take i) = g at *
    have sh8 := shl_byte hbb
    walk_at "w"
    rw [byte_int hbb]
    have hx := xor_byte_lt hlt hbb
    generalize hX : g ^^^ (b.toNat * 256) = x0 at *
    walk_at "w"
    refine w_forN (fun j s => ∃ e4 : Option Ent, s = ⟨[some (.fz (.int (f : Int))), some (.fz (.lst (ns.map D.int))), some (.fz (.int (citr j x0 : Nat))), some (.fz (.int b)), e4], M⟩) ⟨_, rfl⟩ ?_ ?_
    · rintro j y s hj ⟨e4, rfl⟩
      have hl := citr_lt hx j
      have en : citr (j + 1) x0 = cstp (citr j x0) := rfl
      rw [en]
      generalize citr j x0 = x at *
      walk_at "w"
      by_cases h : Builtin.bitAnd (x : Int) 32768 = 0
      · refine z_b0 (by rw [decide_eq_true h]; rfl) ?_
        have sh := shl_nat (x := x) (j := 1) (m := 16) hl (by decide) (by decide) (by decide)
        walk_at "w"
        rw [stp0 h]
        exact ⟨_, rfl⟩
      · refine z_b1 (by rw [decide_eq_false h]; rfl) ?_
        have hx1 : Builtin.bitXor (x : Int) 32768 = ((x ^^^ 32768 : Nat) : Int) := Z.xor_nat x 32768
        have hl1 : x ^^^ 32768 < 2 ^ 16 := Nat.xor_lt_two_pow hl (by decide)
        have sh : CShl (Builtin.bitXor (x : Int) 32768) 1 := by rw [hx1]; exact shl_nat hl1 (by decide) (by decide) (by decide)
        walk_at "w"
        rw [stp1 h]
        exact ⟨_, rfl⟩
    · rintro s ⟨e4, rfl⟩
      rw [rng_len]
      exact ⟨_, _, by unfold byt8; rw [hX]; rfl⟩
  · rintro s ⟨e3, e4, rfl⟩
    rw [List.length_map, List.take_length]
    walk_at "w"
    exact ⟨rfl, rfl⟩
def crcB (ns : List Int) : List Int := [((crcN 65535 ns : Nat) : Int) / 256, ((crcN 65535 ns : Nat) : Int) % 256]
theorem crcB_bd {ns : List Int} (h : Z.Byt ns) : Z.Byt (crcB ns) := fun x hx => by
  have := crcN_lt (ns := ns) (f := 65535) (by decide) h
  have e : (2 : Nat) ^ 16 = 65536 := rfl
  unfold crcB at hx
  rcases List.mem_cons.mp hx with rfl | hx
  · omega
  · rw [List.mem_singleton.mp hx]; omega
theorem crcB_len (ns : List Int) : (crcB ns).length = 2 := rfl
theorem crc_row_ok {ns : List Int} (hb : Z.Byt ns) (M : List Cn) : m_crc_row [.lst (ns.map D.int)] M = .ok (.new (.lst ((crcB ns).map D.int))) M := by
  refine fo_ok (P := fun _ _ => True) ?_
  walk_at "f0"; unfold b_crc_row
  walk_at "w"
  refine fo_eq (a := .val (.int (crcN 65535 ns : Nat))) (M' := M) (fo_ok (P := fun _ _ => True) ?_) ?_
  · walk_at "f0"; unfold b_crc
    walk_at "w"
    refine fo_eq (crc_on_ok (f := 65535) (by decide) hb M) ?_
    walk_at "w"
    exact ⟨rfl, rfl⟩
  walk_at "w"
  refine ⟨?_, rfl⟩
  have e : Builtin.bitAnd ((crcN 65535 ns : Nat) : Int) 255 = ((crcN 65535 ns &&& 255 : Nat) : Int) := Z.and_nat _ 255
  rw [e, show crcN 65535 ns &&& 255 = crcN 65535 ns % 256 from Nat.and_two_pow_sub_one_eq_mod _ 8]
  rfl
/-! ### the law's own sum -/

theorem law_step {f : Nat} (hf : f < 2 ^ 16) : (if 65535 < f * 2 then ((f * 2) ^^^ 4129) &&& 65535 else f * 2) = cstp f := by
  refine Nat.eq_of_testBit_eq fun i => ?_
  rw [cstp_bit hf]
  have e16 : (2 : Nat) ^ 16 = 65536 := rfl
  have hm : (65535 : Nat).testBit i = decide (i < 16) := Nat.testBit_two_pow_sub_one (n := 16) (i := i)
  by_cases h : 65535 < f * 2
  · have ht : f.testBit 15 = true := by
      cases q : f.testBit 15 with
      | true => rfl
      | false =>
        have : f < 2 ^ 15 := lt_of_bits fun k hk => by
          by_cases e : k = 15
          · rw [e]; exact q
          · exact hi_false hf (by omega)
        have e15 : (2 : Nat) ^ 15 = 32768 := rfl
        omega
    rw [if_pos h, Nat.testBit_and, Nat.testBit_xor, bit_mul2, hm, ht]
    by_cases h16 : i < 16
    · simp [h16]
    · simp [h16, feed_hi (show 16 ≤ i by omega)]
  · have e15 : (2 : Nat) ^ 15 = 32768 := rfl
    have ht : f.testBit 15 = false := Nat.testBit_lt_two_pow (by omega)
    rw [if_neg h, bit_mul2, ht]
    by_cases h16 : i < 16
    · simp [h16]
    · have : f.testBit (i - 1) = false := hi_false (n := 15) (by omega) (by omega)
      simp [this]
theorem l_sum_ok {ns : List Int} (hb : Z.Byt ns) (M : List Cn) : m_l_sum [.lst (ns.map D.int)] M = .ok (.new (.lst ((crcB ns).map D.int))) M := by
  refine fo_ok (P := fun _ _ => True) ?_
  walk_at "f0"; unfold b_l_sum
  walk_at "w"
  refine w_forN (fun i s => ∃ e3 e4 : Option Ent, s = ⟨[some (.fz (.lst (ns.map D.int))), some (.fz (.int (crcN 65535 (ns.take i) : Nat))), e3, e4], M⟩) ⟨_, _, rfl⟩ ?_ ?_
  · rintro i y s hi ⟨e3, e4, rfl⟩
    obtain ⟨b, hbi, rfl⟩ := map_get hi
    have hbb := byt_at hb hbi
    have hlt := crcN_lt (ns := ns.take i) (f := 65535) (by decide) (byt_take hb)
    rw [crcN_more hbi]
    generalize crcN 65535 (ns.take i) = g at *
    have sh8 := shl_byte hbb
    walk_at "w"
    rw [byte_int hbb]
    have hx := xor_byte_lt hlt hbb
    generalize hX : g ^^^ (b.toNat * 256) = x0 at *
    walk_at "w"
    refine w_forN (fun j s => ∃ e4 : Option Ent, s = ⟨[some (.fz (.lst (ns.map D.int))), some (.fz (.int (citr j x0 : Nat))), some (.fz (.int b)), e4], M⟩) ⟨_, rfl⟩ ?_ ?_
    · rintro j y s hj ⟨e4, rfl⟩
      have hl := citr_lt hx j
      have en : citr (j + 1) x0 = cstp (citr j x0) := rfl
      rw [en]
      generalize citr j x0 = x at *
      have sh := shl_nat (x := x) (j := 1) (m := 16) hl (by decide) (by decide) (by decide)
      have e2 : (x : Int) * 2 ^ (1 : Int).toNat = ((x * 2 : Nat) : Int) := by
        rw [show (1 : Int).toNat = 1 from rfl]; omega
      have hst := law_step hl
      walk_at "w"
      rw [e2]
      refine z_if (fun h => ?_) (fun h => ?_)
      · walk_at "w"
        rw [if_pos (by omega)] at hst
        have ex : Builtin.bitXor ((x * 2 : Nat) : Int) 4129 = ((x * 2 ^^^ 4129 : Nat) : Int) := Z.xor_nat _ 4129
        have ea : Builtin.bitAnd ((x * 2 ^^^ 4129 : Nat) : Int) 65535 = (((x * 2 ^^^ 4129) &&& 65535 : Nat) : Int) := Z.and_nat _ 65535
        rw [ex, ea, hst]
        exact ⟨_, rfl⟩
      · walk_at "w"
        rw [if_neg (by omega)] at hst
        rw [hst]
        exact ⟨_, rfl⟩
    · rintro s ⟨e4, rfl⟩
      rw [rng_len]
      exact ⟨_, _, by unfold byt8; rw [hX]; rfl⟩
  · rintro s ⟨e3, e4, rfl⟩
    rw [List.length_map, List.take_length]
    walk_at "w"
    exact ⟨rfl, rfl⟩

/-! ### books, plain -/
def NB : List Int := [45, 46, 48, 49, 50, 51, 52, 53, 54, 55, 56, 57, 97, 98, 99, 100, 101, 102, 103, 104, 105, 106, 107, 108, 109, 110, 111, 112, 113, 114, 115, 116, 117, 118, 119, 120, 121, 122]
theorem NB_bd : ∀ b ∈ NB, 45 ≤ b ∧ b ≤ 122 := by decide
/-- an entry: a text, a name by its signs' bytes, a length, places -/
structure En where
  text : Int
  name : List Int
  len : Int
  places : List Int
def b3 (p : Int) : List Int := [p / 65536, p / 256 % 256, p % 256]
def enB (e : En) : List Int := [e.text, (e.name.length : Int)] ++ (e.name ++ ([(e.places.length : Int), e.len / 256, e.len % 256] ++ (e.places.map b3).flatten))
structure EnOk (e : En) : Prop where
  t0 : 0 ≤ e.text ∧ e.text ≤ 254
  n0 : 1 ≤ e.name.length ∧ e.name.length ≤ 12
  nb : ∀ b ∈ e.name, b ∈ NB
  p0 : 1 ≤ e.places.length ∧ e.places.length ≤ 255
  pb : ∀ p ∈ e.places, 0 ≤ p ∧ p < 16777216
  l0 : 0 ≤ e.len ∧ e.len ≤ 255 * (e.places.length : Int)
/-- so many places -/
def plAt : Nat → List Int → Option (List Int)
  | 0, _ => some []
  | n + 1, a :: b :: c :: R => (plAt n R).map ((a * 65536 + b * 256 + c) :: ·)
  | _ + 1, _ => none
def enAt (R : List Int) : Option (En × Nat) := match R with
  | text :: m :: R1 =>
    if m < 1 ∨ 12 < m ∨ R1.length < m.toNat ∨ 254 < text ∨ ((R1.take m.toNat).all fun b => decide (b ∈ NB)) = false then none else
    match R1.drop m.toNat with
    | k :: l1 :: l2 :: R2 => match plAt k.toNat R2 with
      | none => none
      | some ps => if k = 0 ∨ 255 * k < l1 * 256 + l2 then none else some (⟨text, R1.take m.toNat, l1 * 256 + l2, ps⟩, 5 + m.toNat + 3 * k.toNat)
    | _ => none
  | _ => none
theorem b3_len (ps : List Int) : ((ps.map b3).flatten).length = 3 * ps.length := by
  induction ps with
  | nil => rfl
  | cons p ps ih => rw [List.map_cons, List.flatten_cons, List.length_append, ih, List.length_cons]; show 3 + _ = _; omega
theorem enB_len (e : En) : (enB e).length = 5 + e.name.length + 3 * e.places.length := by
  unfold enB
  rw [List.length_append, List.length_append, List.length_append, b3_len]
  show 2 + (_ + (3 + _)) = _; omega
theorem pl_hit {ps : List Int} (h : ∀ p ∈ ps, 0 ≤ p ∧ p < 16777216) (X : List Int) : plAt ps.length ((ps.map b3).flatten ++ X) = some ps := by
  induction ps with
  | nil => rfl
  | cons p ps ih =>
    have hp := h p List.mem_cons_self
    rw [List.map_cons, List.flatten_cons, List.append_assoc]
    show (plAt ps.length ((ps.map b3).flatten ++ X)).map ((p / 65536 * 65536 + p / 256 % 256 * 256 + p % 256) :: ·) = _
    rw [ih (fun q hq => h q (List.mem_cons_of_mem _ hq)), Option.map_some]
    congr 2
    omega
theorem pl_of : ∀ {n : Nat} {R ps : List Int}, (∀ b ∈ R, 0 ≤ b ∧ b ≤ 255) → plAt n R = some ps → ps.length = n ∧ (∀ p ∈ ps, 0 ≤ p ∧ p < 16777216) ∧ 3 * n ≤ R.length ∧ R.take (3 * n) = (ps.map b3).flatten
  | 0, R, ps, _, e => by cases e; exact ⟨rfl, (fun p hp => by cases hp), by omega, rfl⟩
  | n + 1, [], ps, _, e => by cases e
  | n + 1, [_], ps, _, e => by cases e
  | n + 1, [_, _], ps, _, e => by cases e
  | n + 1, a :: b :: c :: R, ps, hb, e => by
    obtain ⟨qs, e1, rfl⟩ := Option.map_eq_some_iff.mp (show (plAt n R).map ((a * 65536 + b * 256 + c) :: ·) = some ps from e)
    have ha := hb a (by simp)
    have hb' := hb b (by simp)
    have hc := hb c (by simp)
    obtain ⟨h1, h2, h3, h4⟩ := pl_of (fun y hy => hb y (by simp [hy])) e1
    refine ⟨by rw [List.length_cons, h1], fun p hp => ?_, by simp only [List.length_cons]; omega, ?_⟩
    · rcases List.mem_cons.mp hp with rfl | hp
      · omega
      · exact h2 p hp
    · rw [show 3 * (n + 1) = 3 * n + 3 by omega]
      show a :: b :: c :: R.take (3 * n) = b3 (a * 65536 + b * 256 + c) ++ (qs.map b3).flatten
      rw [h4]
      show _ = [(a * 65536 + b * 256 + c) / 65536, (a * 65536 + b * 256 + c) / 256 % 256, (a * 65536 + b * 256 + c) % 256] ++ _
      rw [show (a * 65536 + b * 256 + c) / 65536 = a by omega, show (a * 65536 + b * 256 + c) / 256 % 256 = b by omega, show (a * 65536 + b * 256 + c) % 256 = c by omega]; rfl
theorem en_hit {e : En} (h : EnOk e) (X : List Int) : enAt (enB e ++ X) = some (e, (enB e).length) := by
  have hl := enB_len e
  have h1 := h.t0
  have h2 := h.n0
  have h3 := h.p0
  have h4 := h.l0
  rw [hl]
  have eq : enB e ++ X = e.text :: (e.name.length : Int) :: (e.name ++ ((e.places.length : Int) :: (e.len / 256) :: (e.len % 256) :: ((e.places.map b3).flatten ++ X))) := by
    unfold enB; simp
  rw [eq]
  unfold enAt
  dsimp only
  rw [Int.toNat_natCast, List.take_left, List.drop_left]
  rw [if_neg (by
    have hall : (e.name.all fun b => decide (b ∈ NB)) = true := by
      rw [List.all_eq_true]; intro b hb; exact decide_eq_true (h.nb b hb)
    rw [hall, List.length_append]
    simp; omega)]
  dsimp only
  rw [Int.toNat_natCast, pl_hit h.pb]
  dsimp only
  rw [if_neg (by omega)]
  congr 2
  rw [show e.len / 256 * 256 + e.len % 256 = e.len by omega]
theorem en_of {R : List Int} (hb : ∀ b ∈ R, 0 ≤ b ∧ b ≤ 255) {e : En} {z : Nat} (h : enAt R = some (e, z)) : EnOk e ∧ z ≤ R.length ∧ R.take z = enB e := by
  unfold enAt at h
  split at h
  · rename_i text m R1
    have ht := hb text (by simp)
    split at h
    · cases h
    · rename_i h1
      have hb1 : ∀ b ∈ R1, 0 ≤ b ∧ b ≤ 255 := fun b hm => hb b (by simp [hm])
      have hall : ((R1.take m.toNat).all fun b => decide (b ∈ NB)) = true := by
        cases q : ((R1.take m.toNat).all fun b => decide (b ∈ NB)) with
        | true => rfl
        | false => exact absurd (.inr (.inr (.inr (.inr q)))) h1
      have hlen : ¬ R1.length < m.toNat := fun q => h1 (.inr (.inr (.inl q)))
      split at h
      · rename_i k l1 l2 R2 e1
        have hsub : ∀ y ∈ k :: l1 :: l2 :: R2, 0 ≤ y ∧ y ≤ 255 := fun y hy => hb1 y (List.mem_of_mem_drop (by rw [e1]; exact hy))
        have hk := hsub k (by simp)
        have hl1 := hsub l1 (by simp)
        have hl2 := hsub l2 (by simp)
        split at h
        · cases h
        · rename_i ps e2
          split at h
          · cases h
          · rename_i h2
            cases h
            obtain ⟨p1, p2, p3, p4⟩ := pl_of (fun y hy => hsub y (by simp [hy])) e2
            have hd := congrArg List.length e1
            rw [List.length_drop] at hd
            simp only [List.length_cons] at hd
            have htl : (R1.take m.toNat).length = m.toNat := by rw [List.length_take]; omega
            have hzl : 5 + m.toNat + 3 * k.toNat ≤ (text :: m :: R1).length := by simp only [List.length_cons]; omega
            refine ⟨⟨by show 0 ≤ text ∧ text ≤ 254; omega, by show 1 ≤ (R1.take m.toNat).length ∧ (R1.take m.toNat).length ≤ 12; rw [htl]; omega, fun b hm => ?_, by show 1 ≤ ps.length ∧ ps.length ≤ 255; rw [p1]; omega, p2, by show 0 ≤ l1 * 256 + l2 ∧ l1 * 256 + l2 ≤ 255 * (ps.length : Int); rw [p1]; omega⟩, hzl, ?_⟩
            · have := List.all_eq_true.mp hall b hm
              exact of_decide_eq_true this
            · have e3 : (text :: m :: R1).take (5 + m.toNat + 3 * k.toNat) = text :: m :: (R1.take (3 + m.toNat + 3 * k.toNat)) := by
                rw [show 5 + m.toNat + 3 * k.toNat = (3 + m.toNat + 3 * k.toNat) + 2 by omega]; rfl
              have e4 : R1.take (3 + m.toNat + 3 * k.toNat) = R1.take m.toNat ++ (R1.drop m.toNat).take (3 + 3 * k.toNat) := by
                rw [show 3 + m.toNat + 3 * k.toNat = m.toNat + (3 + 3 * k.toNat) by omega, List.take_add]
              rw [e3, e4, e1, show 3 + 3 * k.toNat = 3 * k.toNat + 3 by omega]
              show text :: m :: (R1.take m.toNat ++ k :: l1 :: l2 :: R2.take (3 * k.toNat)) = _
              rw [p4]
              unfold enB
              dsimp only
              rw [htl, p1, show ((m.toNat : Nat) : Int) = m by omega, show ((k.toNat : Nat) : Int) = k by omega, show (l1 * 256 + l2) / 256 = l1 by omega, show (l1 * 256 + l2) % 256 = l2 by omega]
              simp
      · cases h
  · cases h
/-- an entry may stand behind others -/
def mayF (e : En) (es : List En) : Bool := (match es.getLast? with | none => true | some l => decide (l.text < e.text)) && !decide (e.name ∈ es.map En.name)
def esAt : Nat → List En → List Int → Option (List En × Nat)
  | 0, es, _ => some (es, 0)
  | n + 1, es, R => match enAt R with
    | none => none
    | some (e, z) => if mayF e es = true then (esAt n (es ++ [e]) (R.drop z)).map fun r => (r.1, z + r.2) else none
def bkAt (R : List Int) : Option (List En × Nat) := match R with
  | a :: b :: m :: Y => if a ≠ 165 ∨ b ≠ 91 ∨ 30 < m then none else
    match esAt m.toNat [] Y with
    | none => none
    | some (es, z) => if (Y.drop z).take 2 ≠ crcB (m :: Y.take z) then none else some (es, z + 5)
  | _ => none
/-- entries one behind the other, behind some others -/
def Flw : List En → List En → Prop
  | _, [] => True
  | es, e :: fs => EnOk e ∧ mayF e es = true ∧ Flw (es ++ [e]) fs
theorem es_hit : ∀ {fs es : List En} (X : List Int), Flw es fs → esAt fs.length es ((fs.map enB).flatten ++ X) = some (es ++ fs, ((fs.map enB).flatten).length)
  | [], es, X, _ => by show some (es, 0) = some (es ++ [], 0); rw [List.append_nil]
  | e :: fs, es, X, ⟨h1, h2, h3⟩ => by
    rw [List.map_cons, List.flatten_cons, List.append_assoc]
    rw [List.length_cons]
    unfold esAt
    rw [en_hit h1]
    dsimp only
    rw [if_pos h2, List.drop_left, es_hit X h3, Option.map_some, List.length_append, List.append_assoc]; rfl
theorem es_of : ∀ {n : Nat} {es gs : List En} {R : List Int} {z : Nat}, (∀ b ∈ R, 0 ≤ b ∧ b ≤ 255) → esAt n es R = some (gs, z) → ∃ fs, gs = es ++ fs ∧ fs.length = n ∧ Flw es fs ∧ z ≤ R.length ∧ R.take z = (fs.map enB).flatten
  | 0, es, gs, R, z, _, h => by cases h; exact ⟨[], by rw [List.append_nil], rfl, trivial, Nat.zero_le _, rfl⟩
  | n + 1, es, gs, R, z, hb, h => by
    unfold esAt at h
    split at h
    · cases h
    · rename_i e z1 h1
      split at h
      · rename_i h2
        obtain ⟨r, e3, e4⟩ := Option.map_eq_some_iff.mp h
        obtain ⟨gs', z2⟩ := r
        obtain ⟨g1, g2, g3⟩ := en_of hb h1
        obtain ⟨fs, f1, f2, f3, f4, f5⟩ := es_of (fun b hm => hb b (List.mem_of_mem_drop hm)) e3
        cases e4
        rw [List.length_drop] at f4
        refine ⟨e :: fs, by rw [f1, List.append_assoc]; rfl, by rw [List.length_cons, f2], ⟨g1, h2, f3⟩, by show z1 + z2 ≤ R.length; omega, ?_⟩
        show R.take (z1 + z2) = _
        rw [List.take_add, g3, f5, List.map_cons, List.flatten_cons]
      · cases h
structure BkOk (es : List En) (E : List Int) : Prop where
  fl : Flw [] es
  le : es.length ≤ 30
  eq : E = [165, 91] ++ ((es.length : Int) :: (es.map enB).flatten) ++ crcB ((es.length : Int) :: (es.map enB).flatten)
theorem bk_hit {es : List En} {E : List Int} (h : BkOk es E) (X : List Int) : bkAt (E ++ X) = some (es, E.length) := by
  have hle := h.le
  have hc := crcB_len ((es.length : Int) :: (es.map enB).flatten)
  rw [h.eq]
  have e : [165, 91] ++ ((es.length : Int) :: (es.map enB).flatten) ++ crcB ((es.length : Int) :: (es.map enB).flatten) ++ X = 165 :: 91 :: (es.length : Int) :: ((es.map enB).flatten ++ (crcB ((es.length : Int) :: (es.map enB).flatten) ++ X)) := by simp
  have hl : ([165, 91] ++ ((es.length : Int) :: (es.map enB).flatten) ++ crcB ((es.length : Int) :: (es.map enB).flatten)).length = ((es.map enB).flatten).length + 5 := by
    rw [List.length_append, List.length_append, hc, List.length_cons]; show 2 + (_ + 1) + 2 = _; omega
  rw [e, hl]
  unfold bkAt
  dsimp only
  rw [if_neg (by omega), Int.toNat_natCast, es_hit _ h.fl]
  dsimp only
  rw [List.drop_left, List.take_left, List.take_append_of_le_length (by omega), List.take_of_length_le (by omega), if_neg (by simp), List.nil_append]
theorem bk_of {R : List Int} (hb : ∀ b ∈ R, 0 ≤ b ∧ b ≤ 255) {es : List En} {z : Nat} (h : bkAt R = some (es, z)) : z ≤ R.length ∧ BkOk es (R.take z) := by
  unfold bkAt at h
  split at h
  · rename_i a b m Y
    have hY : ∀ y ∈ Y, 0 ≤ y ∧ y ≤ 255 := fun y hy => hb y (by simp [hy])
    have hm := hb m (by simp)
    split at h
    · cases h
    · rename_i h1
      split at h
      · cases h
      · rename_i es' z' h2
        split at h
        · cases h
        · rename_i h3
          cases h
          have h3 : (Y.drop z').take 2 = crcB (m :: Y.take z') := Classical.byContradiction fun hne => h3 hne
          have hl2 := congrArg List.length h3
          rw [crcB_len, List.length_take, List.length_drop] at hl2
          obtain ⟨fs, f1, f2, f3, f4, f5⟩ := es_of hY h2
          rw [List.nil_append] at f1
          subst f1
          have ha : a = 165 := Classical.byContradiction fun hne => h1 (.inl hne)
          have hb' : b = 91 := Classical.byContradiction fun hne => h1 (.inr (.inl hne))
          refine ⟨by simp only [List.length_cons]; omega, f3, by omega, ?_⟩
          rw [ha, hb', f2, ← f5, show ((m.toNat : Nat) : Int) = m by omega, ← h3]
          show [165, 91, m] ++ Y.take (z' + 2) = _
          rw [List.take_add]; simp
  · cases h
theorem bk_more {R X : List Int} (hb : ∀ b ∈ R, 0 ≤ b ∧ b ≤ 255) {es : List En} {z : Nat} (h : bkAt R = some (es, z)) : bkAt (R ++ X) = some (es, z) := by
  obtain ⟨h1, h2⟩ := bk_of hb h
  have := bk_hit h2 (R.drop z ++ X)
  rw [← List.append_assoc, List.take_append_drop, List.length_take, Nat.min_eq_left h1] at this
  exact this

/-! ### two cells of the memory -/
def st2 (M : List Cn) (k j : Nat) (a l : Cn) : List Cn := (M.set k a).set j l
structure Two (M : List Cn) (k j : Nat) : Prop where
  hk : k < M.length
  hj : j < M.length
  ne : k ≠ j
section
variable {M : List Cn} {k j : Nat} {a l a' l' : Cn}
theorem st2_len : (st2 M k j a l).length = M.length := by unfold st2; rw [List.length_set, List.length_set]
theorem Two.st (h : Two M k j) : Two (st2 M k j a l) k j := ⟨by rw [st2_len]; exact h.hk, by rw [st2_len]; exact h.hj, h.ne⟩
theorem Two.gk (h : Two M k j) : (st2 M k j a l)[k]? = some a := by
  unfold st2; rw [List.getElem?_set_ne (fun z => h.ne z.symm), List.getElem?_set_self h.hk]
theorem Two.gj (h : Two M k j) : (st2 M k j a l)[j]? = some l := by
  unfold st2; rw [List.getElem?_set_self (by rw [List.length_set]; exact h.hj)]
theorem st2_o {i : Nat} (hk : i ≠ k) (hj : i ≠ j) : (st2 M k j a l)[i]? = M[i]? := by
  unfold st2; rw [List.getElem?_set_ne (fun z => hj z.symm), List.getElem?_set_ne (fun z => hk z.symm)]
theorem Two.sk (h : Two M k j) : (st2 M k j a l).set k a' = st2 M k j a' l := by
  unfold st2; rw [List.set_comm _ _ (fun z => h.ne z.symm), List.set_set]
theorem Two.sj (h : Two M k j) : (st2 M k j a l).set j l' = st2 M k j a l' := by unfold st2; rw [List.set_set]
theorem Two.ss (h : Two M k j) : st2 (st2 M k j a l) k j a' l' = st2 M k j a' l' := by
  show ((st2 M k j a l).set k a').set j l' = _
  rw [h.sk, h.sj]
theorem Two.self (h : Two M k j) (ha : M[k]? = some a) (hl : M[j]? = some l) : st2 M k j a l = M := by
  unfold st2
  have e1 : M.set k a = M := by
    obtain ⟨hk, e⟩ := List.getElem?_eq_some_iff.mp ha
    rw [← e, List.set_getElem_self]
  rw [e1]
  obtain ⟨hj, e⟩ := List.getElem?_eq_some_iff.mp hl
  rw [← e, List.set_getElem_self]
end
theorem fo_fx {P : AI → List Cn → Prop} {E : Exn → List Cn → Prop} {r : Fr} (h : Fo P r) : Fx P E r := by
  cases r with
  | ok a M => exact h
  | er x M => exact h.elim
  | no => exact h.elim
theorem viewL_cid {s : Stt} {k : Nat} {l : List D} (h : s.M[k]? = some (.lst l)) : viewL s (.val (.cid k)) = some l := by
  show s.M[k]?.bind Cn.aL = some l; rw [h]; rfl
theorem viewD_cid {s : Stt} {k : Nat} {l : List D} (h : s.M[k]? = some (.lst l)) : viewD s (.val (.cid k)) = none := by
  show s.M[k]?.bind Cn.aK = none; rw [h]; rfl
theorem lenD_cid {M : List Cn} {k : Nat} {l : List D} (h : M[k]? = some (.lst l)) : lenD M (.cid k) = some l.length := by
  show M[k]?.bind _ = _; rw [h]; rfl
theorem getC_cid {s : Stt} {k : Nat} {c : Cn} (h : s.M[k]? = some c) : getC s (.val (.cid k)) = some c := h
theorem app_at (M : List Cn) (a : Cn) (r : List Cn) : (M ++ a :: r)[M.length]? = some a := by rw [List.getElem?_append_right (Nat.le_refl _), Nat.sub_self]; rfl
theorem app_at1 (M : List Cn) (a b : Cn) (r : List Cn) : (M ++ a :: b :: r)[M.length + 1]? = some b := by rw [List.getElem?_append_right (by omega), show M.length + 1 - M.length = 1 by omega]; rfl
theorem app_set (M : List Cn) (a b : Cn) (r : List Cn) : (M ++ a :: r).set M.length b = M ++ b :: r := by rw [List.set_append_right _ _ (Nat.le_refl _), Nat.sub_self]; rfl
theorem app_two (M : List Cn) (a b : Cn) : Two (M ++ [a, b]) M.length (M.length + 1) := ⟨by simp, by simp, by omega⟩
theorem app_st2 (M : List Cn) (a b a' b' : Cn) : st2 (M ++ [a, b]) M.length (M.length + 1) a' b' = M ++ [a', b'] := by
  unfold st2
  rw [app_set, List.set_append_right _ _ (by omega), show M.length + 1 - M.length = 1 by omega]; rfl

/-! ### books, walked -/
def nmS (n : List Int) : Str := tx (n.map Int.toNat)
theorem nmS_inj {a b : List Int} (ha : ∀ x ∈ a, x ∈ NB) (hb : ∀ x ∈ b, x ∈ NB) (h : nmS a = nmS b) : a = b := by
  have h := tx_inj h
  have gen : ∀ {a b : List Int}, (∀ x ∈ a, x ∈ NB) → (∀ x ∈ b, x ∈ NB) → a.map Int.toNat = b.map Int.toNat → a = b := by
    intro a
    induction a with
    | nil => intro b _ _ h; cases b with
      | nil => rfl
      | cons y b => simp at h
    | cons x a ih =>
      intro b h1 h2 h
      cases b with
      | nil => simp at h
      | cons y b =>
        rw [List.map_cons, List.map_cons] at h
        injection h with h3 h4
        have e1 := NB_bd x (h1 x (by simp))
        have e2 := NB_bd y (h2 y (by simp))
        rw [show x = y by omega, ih (fun z hz => h1 z (by simp [hz])) (fun z hz => h2 z (by simp [hz])) h4]
  exact gen ha hb h
abbrev cfd (row : List Int) (p : Nat) (b : Bool) : List (Str × D) := [("source", .lst (row.map D.int)), ("spot", .int (p : Int)), ("short", .bl b)]
abbrev oC (row : List Int) (p : Nat) (b : Bool) : Cn := .obj 0 (cfd row p b)
theorem cinit_ok {M : List Cn} {row : List Int} {p : Nat} : m_Cursor_init [.cid M.length, .lst (row.map D.int), .int (p : Int)] (M ++ [.obj 0 []]) = .ok (.val .non) (M ++ [oC row p false]) := by
  refine fo_ok (P := fun _ _ => True) ?_
  walk_at "f0"; unfold b_Cursor_init
  walk_at "w"
  refine ⟨_, _, _, objAt_of (app_at M _ _), ⟨rfl, by simp⟩, ?_⟩
  dsimp only []
  rw [app_set]
  walk_at "w"
  refine ⟨_, _, [("source", .lst (row.map D.int))], objAt_of (app_at M _ _), ⟨rfl, by simp⟩, ?_⟩
  dsimp only []
  rw [app_set]
  walk_at "w"
  refine ⟨_, _, [("source", .lst (row.map D.int)), ("spot", .int (p : Int))], objAt_of (app_at M _ _), ⟨rfl, by simp⟩, ?_⟩
  dsimp only []
  rw [app_set]
  exact ⟨trivial, rfl⟩
def numB (l : List Int) : Int := l.foldl (fun n b => n * 256 + b) 0
theorem numB_snoc (l : List Int) (b : Int) : numB (l ++ [b]) = numB l * 256 + b := by unfold numB; rw [List.foldl_append]; rfl
theorem numB_bd : ∀ (n : Nat) {l : List Int}, l.length = n → (∀ b ∈ l, 0 ≤ b ∧ b ≤ 255) → 0 ≤ numB l ∧ numB l < 256 ^ n
  | 0, l, h, _ => by rw [List.length_eq_zero_iff.mp h]; decide
  | n + 1, l, h, hb => by
    have hne : l ≠ [] := fun z => by rw [z] at h; cases h
    have e := List.dropLast_concat_getLast hne
    have h1 := numB_bd n (l := l.dropLast) (by rw [List.length_dropLast, h]; rfl) (fun b hm => hb b (List.dropLast_subset l hm))
    have h2 := hb (l.getLast hne) (List.getLast_mem hne)
    rw [← e, numB_snoc, Int.pow_succ]
    omega
theorem or_byte {n : Nat} {b : Int} (h : 0 ≤ b ∧ b ≤ 255) : Builtin.bitOr ((n : Int) * 2 ^ (8 : Int).toNat) b = (n : Int) * 256 + b := by
  obtain ⟨c, rfl⟩ : ∃ c : Nat, b = (c : Int) := ⟨b.toNat, by omega⟩
  have e : ((n : Int) * 2 ^ (8 : Int).toNat) = ((2 ^ 8 * n : Nat) : Int) := by
    rw [show (8 : Int).toNat = 8 from rfl]; push_cast; rw [Int.mul_comm]
  rw [e, Z.or_nat, ← Nat.two_pow_add_eq_or_of_lt (show c < 2 ^ 8 by omega)]
  have : (2 : Nat) ^ 8 = 256 := rfl
  omega
theorem number_ok {M : List Cn} {k : Nat} {row : List Int} {p m : Nat} {b : Bool} (h : M[k]? = some (oC row p b)) (hb : ∀ b ∈ row, 0 ≤ b ∧ b ≤ 255) (hm : m ≤ 3) (hp : p ≤ 1000000) : m_Cursor_number [.cid k, .int (m : Int)] M = .ok (.val (.int (numB ((row.drop p).take m)))) (M.set k (oC row (p + m) (b || decide (((row.drop p).take m).length < m)))) := by
  have hk := (List.getElem?_eq_some_iff.mp h).1
  have hpb : ∀ x ∈ (row.drop p).take m, 0 ≤ x ∧ x ≤ 255 := fun x hx => hb x (List.mem_of_mem_drop (List.mem_of_mem_take hx))
  have hpl : ((row.drop p).take m).length ≤ 3 := by rw [List.length_take]; omega
  refine fo_ok (P := fun _ _ => True) ?_
  walk_at "f0"; unfold b_Cursor_number
  walk_at "wi"
  rw [cutL_part _ (by omega) (by omega), ← List.map_drop, ← List.map_take, Int.toNat_natCast, show ((p : Int) + (m : Int)).toNat - p = m by omega]
  walk_at "wi"
  refine ⟨_, _, rfl, h, by show 3 < 1000; decide, ?_⟩
  rw [show putD (Str.ofString "spot") (.int ((p : Int) + (m : Int))) (cfd row p b) = cfd row (p + m) b from rfl]
  have h1 : (M.set k (oC row (p + m) b))[k]? = some (oC row (p + m) b) := List.getElem?_set_self hk
  generalize hP : (row.drop p).take m = P at *
  refine w_join (fun s => s = ⟨[some (.fz (.cid k)), some (.fz (.int (m : Int))), some (.ow (.lst (P.map D.int))), none, none], M.set k (oC row (p + m) (b || decide (P.length < m)))⟩) ?_ ?_
  · walk_at "w"
    rw [List.length_map]
    refine z_if (fun hc => ?_) (fun hc => ?_)
    · walk_at "w"
      rw [show putD (Str.ofString "short") (.bl true) (cfd row (p + m) b) = cfd row (p + m) true from rfl, List.set_set, decide_eq_true (by omega), Bool.or_true]
    · walk_at "w"
      rw [decide_eq_false (by omega), Bool.or_false]
  rintro s rfl
  walk_at "w"
  refine w_forN (fun i s => ∃ (f : Ent) (e4 : Option Ent), s = ⟨[some (.fz (.cid k)), some (.fz (.int (m : Int))), some f, some (.fz (.int (numB (P.take i)))), e4], M.set k (oC row (p + m) (b || decide (P.length < m)))⟩) ⟨_, _, rfl⟩ ?_ ?_
  · rintro i y s hi ⟨f, e4, rfl⟩
    obtain ⟨x, hx, rfl⟩ := map_get hi
    have hil : i < P.length := (List.getElem?_eq_some_iff.mp hx).1
    have hxb := hpb x (List.mem_of_getElem? hx)
    have hbd := numB_bd (P.take i).length rfl (fun y hy => hpb y (List.mem_of_mem_take hy))
    have hbd2 : numB (P.take i) < 2 ^ 24 := by
      have h1 : (P.take i).length ≤ 3 := by rw [List.length_take]; omega
      have h2 : (256 : Int) ^ (P.take i).length ≤ 256 ^ 3 := by exact_mod_cast Nat.pow_le_pow_right (by decide) h1
      have h3 : (256 : Int) ^ 3 = 2 ^ 24 := by decide
      omega
    rw [show P.take (i + 1) = P.take i ++ [x] from by rw [List.take_add_one, hx]; rfl, numB_snoc]
    obtain ⟨n, hn⟩ : ∃ n : Nat, numB (P.take i) = (n : Int) := ⟨(numB (P.take i)).toNat, by omega⟩
    rw [hn] at hbd2 ⊢
    have hn24 : n < 2 ^ 24 := by
      have : ((2 ^ 24 : Nat) : Int) = (2 : Int) ^ 24 := by decide
      omega
    have sh := shl_nat (x := n) (j := 8) (m := 24) hn24 (by decide) (by decide) (by decide)
    walk_at "w"
    rw [or_byte hxb]
    exact ⟨_, _, rfl⟩
  · rintro s ⟨f, e4, rfl⟩
    rw [List.length_map, List.take_length]
    walk_at "w"
    exact ⟨rfl, rfl⟩
/-! ### a name -/
def nmAt (R : List Int) : Option (List Int) := match R with
  | m :: R1 => if m < 1 ∨ 12 < m ∨ R1.length < m.toNat ∨ ((R1.take m.toNat).all fun b => decide (b ∈ NB)) = false then none else some (R1.take m.toNat)
  | [] => none
theorem sign_at : ∀ b ∈ NB, atI [45, 46, 48, 49, 50, 51, 52, 53, 54, 55, 56, 57, 97, 98, 99, 100, 101, 102, 103, 104, 105, 106, 107, 108, 109, 110, 111, 112, 113, 114, 115, 116, 117, 118, 119, 120, 121, 122] (((NB.idxOf b : Nat) : Int)) = some b.toNat := by decide
theorem signs_tx : Str.ofString "-.0123456789abcdefghijklmnopqrstuvwxyz" = tx [45, 46, 48, 49, 50, 51, 52, 53, 54, 55, 56, 57, 97, 98, 99, 100, 101, 102, 103, 104, 105, 106, 107, 108, 109, 110, 111, 112, 113, 114, 115, 116, 117, 118, 119, 120, 121, 122] := by decide +kernel
theorem join_signs (ns : List Int) : Txt.join (Str.ofString "") (ns.map fun b => tx [b.toNat]) = nmS ns := by
  have e : Str.ofString "" = tx [] := by decide +kernel
  rw [e, show (ns.map fun b => tx [b.toNat]) = (ns.map fun b => [b.toNat]).map tx by rw [List.map_map]; rfl, tx_join0]
  unfold nmS
  congr 1
  induction ns with
  | nil => rfl
  | cons b ns ih => rw [List.map_cons, List.flatten_cons, ih]; rfl
theorem sum_tx1 : ∀ told : List Int, ((told.map fun l => tx [l.toNat]).map fun s => s.length).sum = told.length
  | [] => rfl
  | a :: l => by
    rw [List.map_cons, List.map_cons, List.sum_cons, sum_tx1 l, List.length_cons, tx_len]; show 1 + _ = _; omega
theorem num1 (row : List Int) (p : Nat) : (∃ x, (row.drop p).take 1 = [x] ∧ row.drop p = x :: row.drop (p + 1) ∧ numB ((row.drop p).take 1) = x) ∨ (row.length ≤ p ∧ numB ((row.drop p).take 1) = 0 ∧ (row.drop p).take 1 = []) := by
  by_cases h : p < row.length
  · refine .inl ⟨row[p], ?_, List.drop_eq_getElem_cons h, ?_⟩
    · rw [List.drop_eq_getElem_cons h]; rfl
    · rw [List.drop_eq_getElem_cons h]; show 0 * 256 + row[p] = _; omega
  · refine .inr ⟨by omega, ?_, ?_⟩
    · rw [List.drop_eq_nil_of_le (by omega)]; rfl
    · rw [List.drop_eq_nil_of_le (by omega)]; rfl
theorem read_name_ok {M : List Cn} {k : Nat} {row : List Int} {p : Nat} {b : Bool} (h : M[k]? = some (oC row p b)) (hb : ∀ b ∈ row, 0 ≤ b ∧ b ≤ 255) (hp : p ≤ 900000) : Fo (fun a M' => ∃ q b', M' = M.set k (oC row q b') ∧ match nmAt (row.drop p) with
    | none => a = .val .non
    | some nm => a = .val (.str (nmS nm)) ∧ q = p + 1 + nm.length ∧ b' = b) (m_read_name [.cid k] M) := by
  have hk := (List.getElem?_eq_some_iff.mp h).1
  walk_at "f0"; unfold b_read_name
  walk_at "w"
  refine fo_eq (number_ok h hb (m := 1) (by decide) (by omega)) ?_
  rcases num1 row p with ⟨x, e1, e2, e3⟩ | ⟨e1, e2, e3⟩
  · have hx := hb x (List.mem_of_mem_drop (i := p) (by rw [e2]; simp))
    rw [e3, e1, show decide (([x] : List Int).length < 1) = false from rfl, Bool.or_false]
    have hnm : nmAt (row.drop p) = (if x < 1 ∨ 12 < x ∨ (row.drop (p + 1)).length < x.toNat ∨ (((row.drop (p + 1)).take x.toNat).all fun b => decide (b ∈ NB)) = false then none else some ((row.drop (p + 1)).take x.toNat)) := by rw [e2]; rfl
    rw [hnm]
    walk_at "w"
    by_cases hx1 : 1 ≤ x
    · rw [decide_eq_true hx1]
      walk_at "w"
      by_cases hx2 : x ≤ 12
      · rw [decide_eq_true hx2]
        walk_at "w"
        have hpart : ∀ i, i ≤ x.toNat → True := fun _ _ => trivial
        refine w_lcInv (fun i acc s => ∃ b', s = ⟨[some (.fz (.cid k)), some (.fz (.int x)), none, none, none], M.set k (oC row (p + 1 + i) b')⟩ ∧ acc = ((List.range i).map fun j => numB ((row.drop (p + 1 + j)).take 1)).map D.int ∧ (p + 1 + i ≤ row.length → b' = b)) ⟨b, rfl, rfl, fun _ => rfl⟩ (by rw [rng_len]; show _ ≤ 16777216; omega) ?_ ?_
        · rintro i y acc s hi ⟨b', rfl, rfl, hb'⟩
          obtain ⟨hi, rfl⟩ := rng_get hi
          have h1 : (M.set k (oC row (p + 1 + i) b'))[k]? = some (oC row (p + 1 + i) b') := List.getElem?_set_self hk
          walk_at "w"
          refine fo_eq (number_ok h1 hb (m := 1) (by decide) (by omega)) ?_
          walk_at "w"
          refine ⟨_, by show Stt.mk _ _ = _; rw [List.set_set]; rfl, ?_, fun hle => ?_⟩
          · rw [List.range_succ, List.map_append, List.map_append]; rfl
          · have := hb' (by omega)
            subst this
            have hl : ((row.drop (p + 1 + i)).take 1).length = 1 := by rw [List.length_take, List.length_drop]; omega
            rw [hl]
            show (b' || decide (1 < 1)) = b'
            cases b' <;> rfl
        rintro _ _ ⟨b', rfl, rfl, hb'⟩
        rw [rng_len] at hb' ⊢
        walk_at "ds"
        -- the bytes told
        have htold : (row.drop (p + 1)).length ≥ x.toNat → ((List.range x.toNat).map fun j => numB ((row.drop (p + 1 + j)).take 1)) = (row.drop (p + 1)).take x.toNat := fun hge => by
          rw [List.length_drop] at hge
          refine List.ext_getElem? fun j => ?_
          by_cases hj : j < x.toNat
          · rw [List.getElem?_map, List.getElem?_range hj, Option.map_some, List.getElem?_take_of_lt hj, List.getElem?_drop]
            rcases num1 row (p + 1 + j) with ⟨y, _, f2, f3⟩ | ⟨f1, _⟩
            · rw [f3, List.getElem?_eq_getElem (by omega)]
              rw [List.drop_eq_getElem_cons (by omega)] at f2
              injection f2 with f2 _
              rw [f2]
            · omega
          · rw [List.getElem?_eq_none_iff.mpr (by rw [List.length_map, List.length_range]; omega), List.getElem?_eq_none_iff.mpr (by rw [List.length_take]; omega)]
        have hshort : (row.drop (p + 1)).length < x.toNat → (((List.range x.toNat).map fun j => numB ((row.drop (p + 1 + j)).take 1)).all fun b => decide (b ∈ NB)) = false := fun hlt => by
          rw [List.length_drop] at hlt
          rw [List.all_eq_false]
          refine ⟨0, List.mem_map.mpr ⟨x.toNat - 1, List.mem_range.mpr (by omega), ?_⟩, by decide⟩
          rw [List.drop_eq_nil_of_le (by omega)]; rfl
        have hkey : (x < 1 ∨ 12 < x ∨ (row.drop (p + 1)).length < x.toNat ∨ (((row.drop (p + 1)).take x.toNat).all fun b => decide (b ∈ NB)) = false) ↔ (((List.range x.toNat).map fun j => numB ((row.drop (p + 1 + j)).take 1)).all fun b => decide (b ∈ NB)) = false := by
          by_cases hge : (row.drop (p + 1)).length ≥ x.toNat
          · rw [htold hge]
            constructor
            · rintro (h | h | h | h)
              · omega
              · omega
              · omega
              · exact h
            · exact fun h => .inr (.inr (.inr h))
          · exact ⟨fun _ => hshort (by omega), fun _ => .inr (.inr (.inl (by omega)))⟩
        generalize htl : ((List.range x.toNat).map fun j => numB ((row.drop (p + 1 + j)).take 1)) = told at *
        have htlen : told.length = x.toNat := by rw [← htl, List.length_map, List.length_range]
        walk_at "w"
        refine w_lcMap (fun d => match d with | .int l => .bl (decide (l ∈ NB)) | d => d) (by rw [List.length_map]; show _ ≤ 16777216; omega) ?_ ?_
        · intro y hy
          obtain ⟨l, hl, rfl⟩ := List.mem_map.mp hy
          walk_at "w"
          refine w_inTi (ns := NB) rfl (intsD_map NB) ?_
          walk_at "w"
          exact ⟨rfl, rfl⟩
        rw [List.map_map, show ((fun d => match d with | D.int l => D.bl (decide (l ∈ NB)) | d => d) ∘ D.int) = D.bl ∘ (fun l : Int => decide (l ∈ NB)) from rfl, ← List.map_map]
        walk_at "ds"
        walk_at "w"
        refine w_bls rfl (blsD_map _) ?_
        rw [show (told.map fun l => decide (l ∈ NB)).all id = told.all fun l => decide (l ∈ NB) from by rw [List.all_map]; rfl]
        walk_at "w"
        cases hall : told.all fun l => decide (l ∈ NB) with
        | false =>
          walk_at "w"
          exact ⟨_, _, rfl, by rw [if_pos (hkey.mpr hall)]⟩
        | true =>
          have hno : ¬ (x < 1 ∨ 12 < x ∨ (row.drop (p + 1)).length < x.toNat ∨ (((row.drop (p + 1)).take x.toNat).all fun b => decide (b ∈ NB)) = false) := fun hh => by rw [hkey.mp hh] at hall; cases hall
          have hge : (row.drop (p + 1)).length ≥ x.toNat := Nat.not_lt.mp fun hh => hno (.inr (.inr (.inl hh)))
          have htd := htold hge
          rw [List.length_drop] at hge
          have hb'2 := hb' (by omega)
          walk_at "w"
          refine w_lcMap (fun d => match d with | .int l => .str (tx [l.toNat]) | d => d) (by rw [List.length_map]; show _ ≤ 16777216; omega) ?_ ?_
          · intro y hy
            obtain ⟨l, hl, rfl⟩ := List.mem_map.mp hy
            have hlN : l ∈ NB := of_decide_eq_true (List.all_eq_true.mp hall l hl)
            walk_at "w"
            refine ⟨l, rfl, hlN, ?_⟩
            rw [signs_tx]
            refine w_ixS (by show 38 ≤ 16777216; decide) (sign_at l hlN) ?_
            walk_at "w"
            exact ⟨rfl, rfl⟩
          rw [List.map_map, show ((fun d => match d with | D.int l => D.str (tx [l.toNat]) | d => d) ∘ D.int) = D.str ∘ (fun l : Int => tx [l.toNat]) from rfl, ← List.map_map]
          walk_at "ds"
          walk_at "w"
          refine ⟨_, by show (some _).bind strsD = _; exact strsD_map _, ?_, ?_⟩
          · rw [show (Str.ofString "").length = 0 from by decide +kernel]
            rw [sum_tx1]; omega
          · rw [join_signs]
            walk_at "w"
            refine ⟨_, _, rfl, ?_⟩
            rw [if_neg hno]
            exact ⟨by rw [htd], by rw [List.length_take, List.length_drop]; omega, hb'2⟩
      · rw [decide_eq_false hx2]
        walk_at "w"
        exact ⟨_, _, rfl, by rw [if_pos (.inr (.inl (by omega)))]⟩
    · rw [decide_eq_false hx1]
      walk_at "w"
      exact ⟨_, _, rfl, by rw [if_pos (.inl (by omega))]⟩
  · rw [e2]
    walk_at "w"
    exact ⟨_, _, rfl, by rw [List.drop_eq_nil_of_le e1]; rfl⟩
/-! ### an entry -/
theorem num_cons {row : List Int} {p m : Nat} (h : p + m ≤ row.length) : ((row.drop p).take m).length = m := by rw [List.length_take, List.length_drop]; omega
theorem num_lt {row : List Int} {p m : Nat} (hm : 0 < m) (h : row.length < p + m) : ((row.drop p).take m).length < m := by rw [List.length_take, List.length_drop]; omega
theorem en_none1 {R : List Int} (h : nmAt (R.drop 1) = none) : enAt R = none := by
  unfold enAt
  split
  · rename_i text m R1
    have h : (if m < 1 ∨ 12 < m ∨ R1.length < m.toNat ∨ ((R1.take m.toNat).all fun b => decide (b ∈ NB)) = false then none else some (R1.take m.toNat)) = none := h
    split at h
    · rename_i h1
      rw [if_pos (by rcases h1 with h1 | h1 | h1 | h1; exact .inl h1; exact .inr (.inl h1); exact .inr (.inr (.inl h1)); exact .inr (.inr (.inr (.inr h1))))]
    · cases h
  · rfl
theorem pl_eq {row : List Int} : ∀ {n q : Nat}, q + 3 * n ≤ row.length → plAt n (row.drop q) = some ((List.range n).map fun j => numB ((row.drop (q + 3 * j)).take 3))
  | 0, q, _ => rfl
  | n + 1, q, h => by
    have hc : row.drop q = row[q] :: row[q + 1] :: row[q + 2] :: row.drop (q + 3) := by
      rw [List.drop_eq_getElem_cons (by omega), List.drop_eq_getElem_cons (by omega), List.drop_eq_getElem_cons (by omega)]
    rw [List.range_succ_eq_map, List.map_cons, List.map_map, Nat.mul_zero, Nat.add_zero]
    have ih := pl_eq (row := row) (n := n) (q := q + 3) (by omega)
    rw [hc]
    show (plAt n (row.drop (q + 3))).map ((row[q] * 65536 + row[q + 1] * 256 + row[q + 2]) :: ·) = _
    rw [ih, Option.map_some]
    congr 1
    rw [List.cons.injEq]
    constructor
    · show _ = numB ((row.drop q).take 3)
      rw [hc]
      show _ = ((0 * 256 + row[q]) * 256 + row[q + 1]) * 256 + row[q + 2]
      omega
    · refine List.map_congr_left fun j _ => ?_
      show numB ((row.drop (q + 3 + 3 * j)).take 3) = numB ((row.drop (q + 3 * (j + 1))).take 3)
      rw [show q + 3 + 3 * j = q + 3 * (j + 1) by omega]
theorem read_entry_ok {M : List Cn} {k : Nat} {row : List Int} {p : Nat} (h : M[k]? = some (oC row p false)) (hb : ∀ b ∈ row, 0 ≤ b ∧ b ≤ 255) (hp : p ≤ 800000) : Fo (fun a M' => match enAt (row.drop p) with
    | none => a = .val .non
    | some (e, z) => a = .val (.tup [.int e.text, .str (nmS e.name), .int e.len, .cid M.length]) ∧ M' = M.set k (oC row (p + z) false) ++ [.lst (e.places.map D.int)]) (m_read_entry [.cid k] M) := by
  have hk := (List.getElem?_eq_some_iff.mp h).1
  generalize hV : enAt (row.drop p) = V
  walk_at "f0"; unfold b_read_entry
  walk_at "w"
  refine fo_eq (number_ok h hb (m := 1) (by decide) (by omega)) ?_
  have hset : ∀ c d : Cn, (M.set k c).set k d = M.set k d := fun c d => List.set_set ..
  generalize hb1 : (false || decide (((row.drop p).take 1).length < 1)) = b1
  have h1 : (M.set k (oC row (p + 1) b1))[k]? = some (oC row (p + 1) b1) := List.getElem?_set_self hk
  walk_at "w"
  refine fo_use (read_name_ok h1 hb (by omega)) ?_
  rintro a M1 ⟨q, b', rfl, hnm⟩
  rw [hset]
  have h2 : (M.set k (oC row q b'))[k]? = some (oC row q b') := List.getElem?_set_self hk
  cases e : nmAt (row.drop (p + 1)) with
  | none =>
    rw [e] at hnm
    have hnm : a = .val .non := hnm
    subst hnm
    have hV0 : V = none := by rw [← hV]; exact en_none1 (by rw [List.drop_drop]; exact e)
    subst hV0
    walk_at "w"
    cases b' with
    | true => walk_at "w"; exact rfl
    | false => walk_at "w"; exact rfl
  | some nm =>
    rw [e] at hnm
    obtain ⟨rfl, rfl, rfl⟩ := hnm
    -- the head
    have hlt : p + 1 < row.length := Classical.byContradiction fun hh => by
      rw [List.drop_eq_nil_of_le (by omega)] at e; cases e
    have hc1 : row.drop p = row[p] :: row[p + 1] :: row.drop (p + 2) := by rw [List.drop_eq_getElem_cons (by omega), List.drop_eq_getElem_cons (by omega)]
    have hl1 := num_cons (row := row) (p := p) (m := 1) (by omega)
    rw [hl1] at hb1
    have hb1 : b' = false := hb1.symm
    subst hb1
    generalize ht : row[p] = t at hc1
    generalize hmm : row[p + 1] = m at hc1
    have htb := hb t (List.mem_of_mem_drop (i := p) (by rw [hc1]; simp))
    have hd1 : row.drop (p + 1) = m :: row.drop (p + 2) := by rw [List.drop_eq_getElem_cons (by omega), hmm]
    have hn1 : numB ((row.drop p).take 1) = t := by rw [hc1]; show 0 * 256 + t = t; omega
    rw [hn1]
    rw [hd1] at e
    have e : (if m < 1 ∨ 12 < m ∨ (row.drop (p + 2)).length < m.toNat ∨ (((row.drop (p + 2)).take m.toNat).all fun b => decide (b ∈ NB)) = false then none else some ((row.drop (p + 2)).take m.toNat)) = some nm := e
    split at e
    · cases e
    · rename_i hno
      injection e with e
      have hlen : ¬ (row.drop (p + 2)).length < m.toNat := fun z => hno (.inr (.inr (.inl z)))
      rw [List.length_drop] at hlen
      have hnl : nm.length = m.toNat := by rw [← e, List.length_take, List.length_drop]; omega
      have hq : p + 1 + 1 + nm.length = p + 2 + m.toNat := by omega
      rw [hq] at h2 ⊢
      have hVe : V = (if 254 < t then none else match row.drop (p + 2 + m.toNat) with
          | k :: l1 :: l2 :: R2 => match plAt k.toNat R2 with
            | none => none
            | some ps => if k = 0 ∨ 255 * k < l1 * 256 + l2 then none else some (⟨t, nm, l1 * 256 + l2, ps⟩, 5 + m.toNat + 3 * k.toNat)
          | _ => none) := by
        rw [← hV, hc1]
        unfold enAt
        dsimp only
        rw [List.drop_drop]
        by_cases h254 : 254 < t
        · rw [if_pos (.inr (.inr (.inr (.inl h254)))), if_pos h254]
        · rw [if_neg (fun hh => by rcases hh with hh | hh | hh | hh | hh; exact hno (.inl hh); exact hno (.inr (.inl hh)); exact hno (.inr (.inr (.inl hh))); exact h254 hh; exact hno (.inr (.inr (.inr hh)))), if_neg h254, e] <;> rfl
      clear hV
      walk_at "w"
      by_cases h254 : 254 < t
      · rw [if_pos h254] at hVe
        subst hVe
        rw [decide_eq_true h254]
        walk_at "w"
        exact rfl
      · rw [if_neg h254] at hVe
        rw [decide_eq_false h254]
        walk_at "w"
        generalize hpp : p + 2 + m.toNat = pp at *
        -- three bytes more
        by_cases h3 : pp + 3 ≤ row.length
        · have hc3 : row.drop pp = row[pp] :: row[pp + 1] :: row[pp + 2] :: row.drop (pp + 3) := by
            rw [List.drop_eq_getElem_cons (by omega), List.drop_eq_getElem_cons (by omega), List.drop_eq_getElem_cons (by omega)]
          generalize row[pp] = kk at hc3
          generalize row[pp + 1] = l1 at hc3
          generalize row[pp + 2] = l2 at hc3
          have hkb := hb kk (List.mem_of_mem_drop (i := pp) (by rw [hc3]; simp))
          have hl1b := hb l1 (List.mem_of_mem_drop (i := pp) (by rw [hc3]; simp))
          have hl2b := hb l2 (List.mem_of_mem_drop (i := pp) (by rw [hc3]; simp))
          have hd1 : row.drop (pp + 1) = l1 :: l2 :: row.drop (pp + 3) := by
            rw [← List.drop_drop, hc3]; rfl
          rw [hc3] at hVe
          dsimp only at hVe
          refine fo_eq (number_ok h2 hb (m := 1) (by decide) (by omega)) ?_
          rw [hset, num_cons (m := 1) (by omega), hc3]
          show Ws _ _ _
          rw [show numB ((kk :: l1 :: l2 :: row.drop (pp + 3)).take 1) = kk from by show 0 * 256 + kk = kk; omega, show (false || decide (1 < 1)) = false from rfl]
          have h4 : (M.set k (oC row (pp + 1) false))[k]? = some (oC row (pp + 1) false) := List.getElem?_set_self hk
          walk_at "w"
          refine fo_eq (number_ok h4 hb (m := 2) (by decide) (by omega)) ?_
          rw [hset, num_cons (m := 2) (by omega), hd1]
          show Ws _ _ _
          rw [show numB ((l1 :: l2 :: row.drop (pp + 3)).take 2) = l1 * 256 + l2 from by show (0 * 256 + l1) * 256 + l2 = _; omega, show (false || decide (2 < 2)) = false from rfl]
          walk_at "w"
          refine w_lcInv (fun i acc s => ∃ b', s = ⟨[some (.fz (.cid k)), some (.fz (.int t)), some (.fz (.str (nmS nm))), some (.fz (.int kk)), some (.fz (.int (l1 * 256 + l2))), none, none], M.set k (oC row (pp + 3 + 3 * i) b')⟩ ∧ acc = ((List.range i).map fun j => numB ((row.drop (pp + 3 + 3 * j)).take 3)).map D.int ∧ b' = decide (row.length < pp + 3 + 3 * i)) ⟨false, rfl, rfl, by rw [decide_eq_false (by omega)]⟩ (by rw [rng_len]; show _ ≤ 16777216; omega) ?_ ?_
          · rintro i y acc s hi ⟨b', rfl, rfl, hb'⟩
            obtain ⟨hi, rfl⟩ := rng_get hi
            have h5 : (M.set k (oC row (pp + 3 + 3 * i) b'))[k]? = some (oC row (pp + 3 + 3 * i) b') := List.getElem?_set_self hk
            walk_at "w"
            refine fo_eq (number_ok h5 hb (m := 3) (by decide) (by omega)) ?_
            walk_at "w"
            refine ⟨_, by show Stt.mk _ _ = _; rw [hset]; rfl, ?_, ?_⟩
            · rw [List.range_succ, List.map_append, List.map_append]; rfl
            · subst hb'
              rw [← Bool.decide_or]
              refine decide_eq_decide.mpr ?_
              constructor
              · rintro (hh | hh)
                · omega
                · rw [List.length_take, List.length_drop] at hh; omega
              · intro hh
                refine .inr ?_
                rw [List.length_take, List.length_drop]; omega
          rintro _ _ ⟨b', rfl, rfl, hb'⟩
          rw [rng_len] at hb' ⊢
          walk_at "ds"
          rw [show (M.set k (oC row (pp + 3 + 3 * kk.toNat) b')).length = M.length from List.length_set]
          have h6 : (M.set k (oC row (pp + 3 + 3 * kk.toNat) b') ++ [.lst (((List.range kk.toNat).map fun j => numB ((row.drop (pp + 3 + 3 * j)).take 3)).map D.int)])[k]? = some (oC row (pp + 3 + 3 * kk.toNat) b') := by
            rw [List.getElem?_append_left (by rw [List.length_set]; exact hk)]; exact List.getElem?_set_self hk
          walk_at "w"
          by_cases hsh : row.length < pp + 3 + 3 * kk.toNat
          · rw [decide_eq_true hsh] at hb'
            subst hb'
            have hpl : plAt kk.toNat (row.drop (pp + 3)) = none := by
              cases q : plAt kk.toNat (row.drop (pp + 3)) with
              | none => rfl
              | some ps =>
                have := (pl_of (fun y hy => hb y (List.mem_of_mem_drop hy)) q).2.2.1
                rw [List.length_drop] at this
                omega
            rw [hpl] at hVe
            have hVe : V = none := hVe
            subst hVe
            walk_at "w"
            exact rfl
          · rw [decide_eq_false hsh] at hb'
            subst hb'
            have hpl : plAt kk.toNat (row.drop (pp + 3)) = some ((List.range kk.toNat).map fun j => numB ((row.drop (pp + 3 + 3 * j)).take 3)) := pl_eq (by omega)
            rw [hpl] at hVe
            dsimp only at hVe
            generalize ((List.range kk.toNat).map fun j => numB ((row.drop (pp + 3 + 3 * j)).take 3)) = ps at *
            walk_at "w"
            by_cases hk0 : kk = 0
            · rw [if_pos (.inl hk0)] at hVe
              subst hVe
              rw [decide_eq_true hk0]
              walk_at "w"
              exact rfl
            · rw [decide_eq_false hk0]
              walk_at "w"
              by_cases hkl : 255 * kk < l1 * 256 + l2
              · rw [if_pos (.inr hkl)] at hVe
                subst hVe
                rw [decide_eq_true hkl]
                walk_at "w"
                exact rfl
              · rw [if_neg (fun hh => hh.elim hk0 hkl)] at hVe
                subst hVe
                rw [decide_eq_false hkl]
                walk_at "w"
                refine ⟨rfl, ?_⟩
                rw [show p + (5 + m.toNat + 3 * kk.toNat) = pp + 3 + 3 * kk.toNat by omega]
        · -- it ends too soon
          have hV0 : V = none := by
            rw [hVe]
            have hl : (row.drop pp).length < 3 := by rw [List.length_drop]; omega
            generalize row.drop pp = R at hl
            match R, hl with
            | [], _ => rfl
            | [_], _ => rfl
            | [_, _], _ => rfl
            | _ :: _ :: _ :: _, hl => simp only [List.length_cons] at hl; omega
          clear hVe
          subst hV0
          refine fo_eq (number_ok h2 hb (m := 1) (by decide) (by omega)) ?_
          rw [hset]
          have hn := numB_bd ((row.drop pp).take 1).length rfl (fun y hy => hb y (List.mem_of_mem_drop (List.mem_of_mem_take hy)))
          have hn2 : numB ((row.drop pp).take 1) ≤ 255 := by
            have h1 : ((row.drop pp).take 1).length ≤ 1 := by rw [List.length_take]; omega
            have h2 : (256 : Int) ^ ((row.drop pp).take 1).length ≤ 256 ^ 1 := by exact_mod_cast Nat.pow_le_pow_right (by decide) h1
            have h3 : (256 : Int) ^ 1 = 256 := by decide
            omega
          generalize numB ((row.drop pp).take 1) = kk at *
          generalize (false || decide (((row.drop pp).take 1).length < 1)) = b2
          have h4 : (M.set k (oC row (pp + 1) b2))[k]? = some (oC row (pp + 1) b2) := List.getElem?_set_self hk
          walk_at "w"
          refine fo_eq (number_ok h4 hb (m := 2) (by decide) (by omega)) ?_
          rw [hset, decide_eq_true (num_lt (by decide) (by omega)), Bool.or_true]
          generalize numB ((row.drop (pp + 1)).take 2) = ll
          walk_at "w"
          refine w_lcInv (fun i acc s => s = ⟨[some (.fz (.cid k)), some (.fz (.int t)), some (.fz (.str (nmS nm))), some (.fz (.int kk)), some (.fz (.int ll)), none, none], M.set k (oC row (pp + 3 + 3 * i) true)⟩) rfl (by rw [rng_len]; show _ ≤ 16777216; omega) ?_ ?_
          · rintro i y acc s hi rfl
            obtain ⟨hi, rfl⟩ := rng_get hi
            have h5 : (M.set k (oC row (pp + 3 + 3 * i) true))[k]? = some (oC row (pp + 3 + 3 * i) true) := List.getElem?_set_self hk
            walk_at "w"
            refine fo_eq (number_ok h5 hb (m := 3) (by decide) (by omega)) ?_
            walk_at "w"
            show Stt.mk _ _ = _
            rw [hset, Bool.true_or]; rfl
          rintro l _ rfl
          rw [rng_len]
          walk_at "ds"
          have h6 : (M.set k (oC row (pp + 3 + 3 * kk.toNat) true) ++ [.lst l])[k]? = some (oC row (pp + 3 + 3 * kk.toNat) true) := by
            rw [List.getElem?_append_left (by rw [List.length_set]; exact hk)]; exact List.getElem?_set_self hk
          walk_at "w"
          exact rfl

/-! ### entries in cells -/
inductive Ens (M : List Cn) (lo : Nat) : List D → List En → Prop
  | nil : Ens M lo [] []
  | cons {ds : List D} {es : List En} {e : En} {c : Nat} : lo ≤ c → M[c]? = some (.lst (e.places.map D.int)) → Ens M lo ds es → Ens M lo (.tup [.int e.text, .str (nmS e.name), .int e.len, .cid c] :: ds) (e :: es)
theorem Ens.len {M : List Cn} {lo : Nat} : ∀ {ds : List D} {es : List En}, Ens M lo ds es → ds.length = es.length
  | _, _, .nil => rfl
  | _, _, .cons _ _ r => by rw [List.length_cons, List.length_cons, r.len]
theorem Ens.app {M : List Cn} {lo : Nat} (X : List Cn) : ∀ {ds : List D} {es : List En}, Ens M lo ds es → Ens (M ++ X) lo ds es
  | _, _, .nil => .nil
  | _, _, .cons l h r => .cons l (by rw [List.getElem?_append_left (List.getElem?_eq_some_iff.mp h).1]; exact h) (r.app X)
theorem Ens.set {M : List Cn} {lo i : Nat} {x : Cn} (hi : i < lo) : ∀ {ds : List D} {es : List En}, Ens M lo ds es → Ens (M.set i x) lo ds es
  | _, _, .nil => .nil
  | _, _, .cons l h r => .cons l (by rw [List.getElem?_set_ne (by omega)]; exact h) (r.set hi)
theorem Ens.snoc {M : List Cn} {lo : Nat} {e : En} {c : Nat} (l : lo ≤ c) (h : M[c]? = some (.lst (e.places.map D.int))) : ∀ {ds : List D} {es : List En}, Ens M lo ds es → Ens M lo (ds ++ [.tup [.int e.text, .str (nmS e.name), .int e.len, .cid c]]) (es ++ [e])
  | _, _, .nil => .cons l h .nil
  | _, _, .cons l' h' r => .cons l' h' (r.snoc l h)
theorem Ens.get {M : List Cn} {lo : Nat} : ∀ {ds : List D} {es : List En} {i : Nat} {d : D}, Ens M lo ds es → ds[i]? = some d → ∃ e c, es[i]? = some e ∧ lo ≤ c ∧ d = .tup [.int e.text, .str (nmS e.name), .int e.len, .cid c] ∧ M[c]? = some (.lst (e.places.map D.int))
  | _, _, _, _, .nil, e => by simp at e
  | _, _, 0, _, .cons (e := t) (c := c) l h r, e => by simp at e; subst e; exact ⟨t, c, rfl, l, rfl, h⟩
  | _, _, i + 1, d, .cons l h r, e => by
    obtain ⟨t, c, h1, h2, h3, h4⟩ := r.get (i := i) (d := d) (by simpa using e)
    exact ⟨t, c, by simpa using h1, h2, h3, h4⟩
theorem Ens.shift {M : List Cn} {lo : Nat} (N : List Cn) : ∀ {ds : List D} {es : List En}, Ens M lo ds es → Ens (N ++ M.map (shC N.length)) (N.length + lo) (shL N.length ds) es
  | _, _, .nil => .nil
  | _, _, .cons (e := e) (c := c) l h r => by
    refine .cons (c := N.length + c) (by omega) ?_ (r.shift N)
    rw [List.getElem?_append_right (by omega), show N.length + c - N.length = c by omega, List.getElem?_map, h]
    show some (Cn.lst (shL N.length (e.places.map D.int))) = _
    rw [shL_ints]
theorem Ens.mono {M : List Cn} {lo lo' : Nat} (hl : lo' ≤ lo) : ∀ {ds : List D} {es : List En}, Ens M lo ds es → Ens M lo' ds es
  | _, _, .nil => .nil
  | _, _, .cons l h r => .cons (by omega) h (r.mono hl)
def dEn (e : En) : D := .tup [.int e.text, .str (nmS e.name), .int e.len, .lst (e.places.map D.int)]
def pyEn (e : En) : PyData := .tuple [.int e.text, .str (nmS e.name), .int e.len, .list (e.places.map PyData.int)]
theorem Ens.rsv {M : List Cn} {lo : Nat} : ∀ {ds : List D} {es : List En}, Ens M lo ds es → mapO (Y.rsv 8 M) ds = some (es.map dEn)
  | _, _, .nil => rfl
  | _, _, .cons (ds := ds) (es := es) (e := e) (c := c) l h r => by
    have q : Y.rsv 8 M (.tup [.int e.text, .str (nmS e.name), .int e.len, .cid c]) = some (dEn e) := by
      refine rsv_tints 7 M _ _ ?_
      simp only [mapO]
      rw [rsv_cints (f := 5) h]; rfl
    show (Y.rsv 8 M (.tup [.int e.text, .str (nmS e.name), .int e.len, .cid c])).bind _ = _
    rw [q, Option.bind_some, r.rsv]; rfl
theorem dEn_py (e : En) : (dEn e).py = some (pyEn e) := by
  show (D.pyL [.int e.text, .str (nmS e.name), .int e.len, .lst (e.places.map D.int)]).map PyData.tuple = _
  simp only [D.pyL, D.py]
  rw [pyL_ints]; rfl
theorem dEn_rsv (f : Nat) (M : List Cn) (e : En) : Y.rsv (f + 3) M (dEn e) = some (dEn e) := by
  refine rsv_tints (f + 2) M _ _ ?_
  simp only [mapO]
  rw [rsv_lints f M]; rfl
theorem nm_ok {n : List Int} (h : ∀ b ∈ n, b ∈ NB) : PyData.canLay0 (.str (nmS n)) = true := by
  show ((n.map Int.toNat).toArray.all fun c => decide (c < 0x110000)) = true
  rw [List.all_toArray, List.all_eq_true]
  intro c hc
  obtain ⟨b, hb, rfl⟩ := List.mem_map.mp hc
  have := NB_bd b (h b hb)
  exact decide_eq_true (by omega)
theorem lay_en {e : En} (h : EnOk e) : Lay 3 (pyEn e) := lay_tup (k := 2) fun x hx => by
  simp at hx
  rcases hx with rfl | rfl | rfl | rfl
  · exact lay_int.mono (by decide)
  · exact (lay_str (nm_ok h.nb)).mono (by decide)
  · exact lay_int.mono (by decide)
  · exact lay_lints _
theorem lay_ens {es : List En} (h : ∀ e ∈ es, EnOk e) : Lay 4 (.list (es.map pyEn)) := lay_lst fun x hx => by
  obtain ⟨t, ht, rfl⟩ := List.mem_map.mp hx
  exact lay_en (h t ht)
theorem rsv_cid {M : List Cn} {k f : Nat} {l : List D} (h : M[k]? = some (.lst l)) : rsv (f + 1) M (.cid k) = (mapO (rsv f M) l).map D.lst := by
  show (match M[k]? with | some (.lst l) => (mapO (rsv f M) l).map D.lst | some (.dK l) => _ | some (.dT l) => _ | _ => _) = _
  rw [h]
theorem pyR_ens {s : Stt} {a : AI} {ds : List D} {es : List En} {lo : Nat} (h : Ens s.M lo ds es) (e : (look s a).bind (Y.rsv 9 s.M) = (mapO (Y.rsv 8 s.M) ds).map D.lst) : pyR s a = some (.list (es.map pyEn)) := by
  unfold pyR
  rw [e, h.rsv]
  show (D.pyL (es.map dEn)).map PyData.list = _
  rw [pyL_map dEn_py]; rfl
theorem pyR_enD {s : Stt} {a : AI} {es : List En} (e : look s a = some (.lst (es.map dEn))) : pyR s a = some (.list (es.map pyEn)) := by
  unfold pyR
  rw [e, Option.bind_some]
  show ((mapO (Y.rsv 8 s.M) (es.map dEn)).map D.lst).bind D.py = _
  rw [mapO_map (fun t => dEn_rsv 5 s.M t)]
  show (D.pyL (es.map dEn)).map PyData.list = _
  rw [pyL_map dEn_py]; rfl

theorem eqv_str (a b : Str) : PyData.eqv (.str a) (.str b) = decide (a = b) := by
  show (a == b) = _
  by_cases h : a = b
  · subst h; simp
  · rw [decide_eq_false h]; exact beq_eq_false_iff_ne.mpr h
theorem any_strs (x : Str) : ∀ xs : List Str, ((xs.map PyData.str).any fun z => PyData.eqv z (.str x)) = decide (x ∈ xs)
  | [] => rfl
  | y :: xs => by
    rw [List.map_cons, List.any_cons, any_strs x xs, eqv_str]
    by_cases h : y = x
    · subst h; simp
    · have h2 : ¬ x = y := fun z => h z.symm
      simp [h, h2]
theorem w_ninStr {QA : AI → Stt → Prop} {X : Exn → Stt → Prop} {s : Stt} {x : Str} {xs : List Str} (hx : PyData.canLay0 (.str x) = true) (hxs : ∀ y ∈ xs, PyData.canLay0 (.str y) = true) (q : QA (.val (.bl (!decide (x ∈ xs)))) s) : Wo QA X (fNin s (.val (.str x)) (.new (.lst (xs.map D.str)))) := by
  unfold fNin
  have hp : pyOf s (.new (.lst (xs.map D.str))) = some (.list (xs.map PyData.str)) := by
    show (D.pyL (xs.map D.str)).map PyData.list = _
    rw [pyL_map (g := PyData.str) (fun _ => rfl)]; rfl
  have ha : pyOf s (.val (.str x)) = some (.str x) := rfl
  have hi : inOf s (.val (.str x)) (.new (.lst (xs.map D.str))) = some (decide (x ∈ xs)) := by
    unfold inOf
    split
    · rename_i h2; cases h2
    · rw [show viewD s (.new (.lst (xs.map D.str))) = none from rfl, ha, hp]
      simp only []
      rw [(lay_str hx).shaped (by decide), (lay_lst (k := 1) (l := xs.map PyData.str) (fun z hz => by
        obtain ⟨y, hy, rfl⟩ := List.mem_map.mp hz
        exact lay_str (hxs y hy))).shaped (by decide), any_strs]; rfl
  rw [hi]; exact q
theorem atI_last {α : Type} {l : List α} (h : l ≠ []) : atI l (-1) = l[l.length - 1]? := by
  have hl : 0 < l.length := List.length_pos_iff.mpr h
  unfold atI ixN
  rw [if_neg (by decide), if_pos (by omega), Option.bind_some, show (-1 + (l.length : Int)).toNat = l.length - 1 by omega]
theorem may_follow_ok {M : List Cn} {ce lo c : Nat} {ds : List D} {es : List En} {e : En} (hc : M[ce]? = some (.lst ds)) (hE : Ens M lo ds es) (hok : ∀ e ∈ es, EnOk e) (he : EnOk e) (hl : es.length ≤ 1000) : m_may_follow [.tup [.int e.text, .str (nmS e.name), .int e.len, .cid c], .cid ce] M = .ok (.val (.bl (mayF e es))) M := by
  have hlen := hE.len
  refine fo_ok (P := fun _ _ => True) ?_
  walk_at "f0"; unfold b_may_follow
  generalize hmf : mayF e es = mf
  have rest : mf = !decide (e.name ∈ es.map En.name) → Ws (fun s => AI.val D.non = AI.val (D.bl mf) ∧ s.M = M) (Oe fun a' M'' => a' = AI.val (D.bl mf) ∧ M'' = M) (mRet (mOp fNin (mOp fIxY (mName 0) (mC (.int 1))) (mLc [2] (mWL (mName 1)) (tgN 2) mYes (mOp fIxY (mName 2) (mC (.int 1))))) ⟨[some (.fz (.tup [.int e.text, .str (nmS e.name), .int e.len, .cid c])), some (.fz (.cid ce)), none], M⟩) := fun hm => by
    walk_at "w"
    refine w_ixT (d := .str (nmS e.name)) rfl rfl rfl rfl rfl ?_
    walk_at "w"
    refine ⟨ds, by show M[ce]?.bind _ = _; rw [hc]; rfl, ?_⟩
    refine w_lcInvK (fun i acc s => s = ⟨[some (.fz (.tup [.int e.text, .str (nmS e.name), .int e.len, .cid c])), some (.fz (.cid ce)), none], M⟩ ∧ acc = ((es.take i).map fun e => nmS e.name).map D.str) ⟨rfl, rfl⟩ (by rintro i acc s ⟨rfl, _⟩; exact hc) (by show ds.length ≤ 16777216; omega) ?_ ?_
    · rintro i x acc s hi ⟨rfl, rfl⟩
      obtain ⟨f, c', h1, _, rfl, h3⟩ := Ens.get hE hi
      walk_at "w"
      refine w_ixT (d := .str (nmS f.name)) rfl rfl rfl rfl rfl ?_
      walk_at "w"
      refine ⟨rfl, ?_⟩
      rw [show es.take (i + 1) = es.take i ++ [f] from by rw [List.take_add_one, h1]; rfl, List.map_append, List.map_append]; rfl
    rintro _ _ ⟨rfl, rfl⟩
    rw [hlen, List.take_length]
    walk_at "ds"
    refine w_ninStr (nm_ok he.nb) (fun y hy => ?_) ?_
    · obtain ⟨f, hf, rfl⟩ := List.mem_map.mp hy
      exact nm_ok (hok f hf).nb
    · have hmem : decide (nmS e.name ∈ es.map fun e => nmS e.name) = decide (e.name ∈ es.map En.name) := by
        refine decide_eq_decide.mpr ⟨fun h => ?_, fun h => ?_⟩
        · obtain ⟨f, hf, h1⟩ := List.mem_map.mp h
          exact List.mem_map.mpr ⟨f, hf, nmS_inj (hok f hf).nb he.nb h1⟩
        · obtain ⟨f, hf, h1⟩ := List.mem_map.mp h
          exact List.mem_map.mpr ⟨f, hf, by rw [h1]⟩
      rw [hmem, ← hm]
      walk_at "w"
      exact ⟨rfl, rfl⟩
  have hpy := pyR_ens (s := ⟨[some (.fz (.tup [.int e.text, .str (nmS e.name), .int e.len, .cid c])), some (.fz (.cid ce)), none], M⟩) (a := .val (.cid ce)) hE (by show rsv 9 M (.cid ce) = _; exact rsv_cid hc)
  refine w_join (fun s => s = ⟨[some (.fz (.tup [.int e.text, .str (nmS e.name), .int e.len, .cid c])), some (.fz (.cid ce)), none], M⟩ ∧ mf = !decide (e.name ∈ es.map En.name)) ?_ (fun s hs => by obtain ⟨rfl, hm⟩ := hs; exact rest hm)
  clear rest
  walk_at "w"
  by_cases h0 : es = []
  · subst h0
    have : ds = [] := List.length_eq_zero_iff.mp hlen
    subst this
    refine w_neR (k := true) (eqR_of hpy (show pyR _ (.new (.lst [])) = some (.list []) from rfl) rfl rfl rfl) ?_
    walk_at "w"
    exact ⟨rfl, by rw [← hmf]; rfl⟩
  · obtain ⟨es', l, rfl⟩ : ∃ es' l, es = es' ++ [l] := ⟨es.dropLast, es.getLast h0, (List.dropLast_concat_getLast h0).symm⟩
    have hdne : ds ≠ [] := fun z => by rw [z] at hlen; simp at hlen
    have hat := atI_last hdne
    rw [List.length_append] at hlen
    have hlen : ds.length = es'.length + 1 := hlen
    have hlt : ds.length - 1 < ds.length := by omega
    obtain ⟨f, c', h1, _, h2, h3⟩ := Ens.get hE (List.getElem?_eq_getElem hlt)
    have hf : f = l := by
      rw [show ds.length - 1 = es'.length by omega, List.getElem?_append_right (Nat.le_refl _), Nat.sub_self] at h1
      cases h1; rfl
    subst hf
    have hat2 : atI ds (-1) = some (.tup [.int f.text, .str (nmS f.name), .int f.len, .cid c']) := by rw [hat, List.getElem?_eq_getElem hlt, h2]
    have hx : PyData.eqv (.list ((es' ++ [f]).map pyEn)) (.list []) = false := by
      cases es' with
      | nil => rfl
      | cons a l => rfl
    refine w_neR (k := false) (eqR_of hpy (show pyR _ (.new (.lst [])) = some (.list []) from rfl) ((lay_ens hok).shaped (by decide)) rfl hx) ?_
    walk_at "w"
    refine w_ixT (d := .int e.text) rfl rfl rfl rfl rfl ?_
    walk_at "w"
    refine w_ixL rfl (viewD_cid hc) (viewL_cid hc) hat2 ?_
    walk_at "w"
    refine w_ixT (d := .int f.text) rfl rfl rfl rfl rfl ?_
    walk_at "w"
    have hmf2 : mf = (decide (f.text < e.text) && !decide (e.name ∈ (es' ++ [f]).map En.name)) := by
      rw [← hmf]; unfold mayF; rw [List.getLast?_concat]
    by_cases hle : e.text ≤ f.text
    · rw [decide_eq_true hle]
      walk_at "w"
      rw [hmf2, decide_eq_false (by omega)]
      exact ⟨rfl, rfl⟩
    · rw [decide_eq_false hle]
      walk_at "w"
      exact ⟨rfl, by rw [hmf2, decide_eq_true (by omega), Bool.true_and]⟩
theorem esAt_succ (n : Nat) (es : List En) (R : List Int) : esAt (n + 1) es R = (match enAt R with
    | none => none
    | some (e, z) => if mayF e es = true then (esAt n (es ++ [e]) (R.drop z)).map fun r => (r.1, z + r.2) else none) := rfl
theorem cons3 {R : List Int} (h : 3 ≤ R.length) : ∃ a b m Y, R = a :: b :: m :: Y := by
  match R, h with
  | a :: b :: m :: Y, _ => exact ⟨a, b, m, Y, rfl⟩
theorem flw_ok : ∀ {fs es : List En}, Flw es fs → ∀ e ∈ fs, EnOk e
  | [], _, _, e, h => by cases h
  | f :: fs, es, ⟨h1, _, h3⟩, e, h => by
    rcases List.mem_cons.mp h with rfl | h
    · exact h1
    · exact flw_ok h3 e h
theorem book_at_fo {row : List Int} (hb : ∀ b ∈ row, 0 ≤ b ∧ b ≤ 255) (hrl : row.length ≤ 90000) {q : Nat} (hq : q ≤ 100000) (M : List Cn) : Fo (fun a M' => match bkAt (row.drop q) with
    | none => a = .val .non
    | some (es, z) => ∃ c ds, c < M.length + 2 ∧ a = .val (.tup [.cid c, .int ((q + z : Nat) : Int)]) ∧ M'[c]? = some (.lst ds) ∧ Ens M' (M.length + 2) ds es) (m_book_at [.lst (row.map D.int), .int (q : Int)] M) := by
  generalize hV : bkAt (row.drop q) = V
  walk_at "f0"; unfold b_book_at
  walk_at "w"
  rw [show (q : Int) + 2 = ((q + 2 : Nat) : Int) by omega]
  refine fo_eq cinit_ok ?_
  refine ⟨rfl, ?_⟩
  walk_at "w"
  rw [cutL_part _ (by omega) (by omega), ← List.map_drop, ← List.map_take, Int.toNat_natCast, show ((q : Int) + 2).toNat - q = 2 by omega]
  refine w_ne (_root_.Y.eqOf_ints (ns := (row.drop q).take 2) (ms := [165, 91]) rfl rfl (.inl rfl) (.inr rfl)) ?_
  have hk0 : (M ++ [oC row (q + 2) false])[M.length]? = some (oC row (q + 2) false) := app_at M _ _
  walk_at "w"
  by_cases hmk : (row.drop q).take 2 = [165, 91]
  · rw [decide_eq_true hmk]
    walk_at "w"
    refine fo_eq (number_ok hk0 hb (m := 1) (by decide) (by omega)) ?_
    rw [app_set]
    by_cases h3 : q + 3 ≤ row.length
    · obtain ⟨a, b, m, Y, e⟩ := cons3 (R := row.drop q) (by rw [List.length_drop]; omega)
      rw [e] at hmk hV
      obtain ⟨rfl, rfl⟩ : a = 165 ∧ b = 91 := by
        have hmk : [a, b] = [165, 91] := hmk
        injection hmk with h1 h2; injection h2 with h2 _; exact ⟨h1, h2⟩
      have hd2 : row.drop (q + 2) = m :: Y := by rw [← List.drop_drop, e]; rfl
      have hd3 : row.drop (q + 3) = Y := by rw [← List.drop_drop, e]; rfl
      have hm := hb m (List.mem_of_mem_drop (i := q) (by rw [e]; simp))
      have hYl : Y.length = row.length - (q + 3) := by rw [← hd3, List.length_drop]
      have hYb : ∀ y ∈ Y, 0 ≤ y ∧ y ≤ 255 := fun y hy => hb y (List.mem_of_mem_drop (i := q + 3) (by rw [hd3]; exact hy))
      rw [hd2, show numB ((m :: Y).take 1) = m from by show 0 * 256 + m = m; omega, show (false || decide (((m :: Y).take 1).length < 1)) = false from rfl]
      have hVe : V = (if 30 < m then none else match esAt m.toNat [] Y with
          | none => none
          | some (es, z) => if (Y.drop z).take 2 ≠ crcB (m :: Y.take z) then none else some (es, z + 5)) := by
        rw [← hV]
        unfold bkAt
        dsimp only
        by_cases h30 : 30 < m
        · rw [if_pos (.inr (.inr h30)), if_pos h30]
        · rw [if_neg (by omega), if_neg h30] <;> rfl
      clear hV
      have hk1 : (M ++ [oC row (q + 2 + 1) false, .lst []])[M.length]? = some (oC row (q + 3) false) := app_at M _ _
      have hc1 : (M ++ [oC row (q + 2 + 1) false, .lst []])[M.length + 1]? = some (.lst []) := app_at1 M _ _ _
      have hlen1 : (M ++ [oC row (q + 2 + 1) false]).length = M.length + 1 := by simp
      walk_at "wi"
      rw [hlen1, List.append_assoc]
      show Ws _ _ (mSeq _ _ ⟨_, M ++ [oC row (q + 2 + 1) false, .lst []]⟩)
      have hL : (M ++ [oC row (q + 2 + 1) false, Cn.lst []]).length = M.length + 2 := by simp
      generalize M ++ [oC row (q + 2 + 1) false, Cn.lst []] = M1 at *
      walk_at "w"
      by_cases h30 : 30 < m
      · rw [if_pos h30] at hVe
        subst hVe
        rw [decide_eq_true h30]
        walk_at "w"
        exact rfl
      · rw [if_neg h30] at hVe
        rw [decide_eq_false h30]
        walk_at "w"
        refine w_forN (fun i s => ∃ (e5 e6 : Option Ent) (M' : List Cn) (ds : List D) (es : List En) (z : Nat), s = ⟨[some (.fz (.lst (row.map D.int))), some (.fz (.int (q : Int))), some (.fz (.cid M.length)), some (.fz (.int m)), some (.fz (.cid (M.length + 1))), e5, e6, none], M'⟩ ∧ M.length + 2 ≤ M'.length ∧ M'[M.length]? = some (oC row (q + 3 + z) false) ∧ M'[M.length + 1]? = some (.lst ds) ∧ Ens M' (M.length + 2) ds es ∧ (∀ e ∈ es, EnOk e) ∧ es.length = i ∧ z ≤ Y.length ∧ esAt m.toNat [] Y = (esAt (m.toNat - i) es (Y.drop z)).map fun r => (r.1, z + r.2)) ⟨_, _, M1, [], [], 0, rfl, by omega, hk1, hc1, .nil, (fun e he => by cases he), rfl, Nat.zero_le _, by rw [Nat.sub_zero, List.drop_zero]; cases esAt m.toNat [] Y with
          | none => rfl
          | some r => show some r = some (r.1, 0 + r.2); rw [Nat.zero_add]⟩ ?_ ?_
        · rintro i x s hi ⟨e5, e6, M', ds, es, z, rfl, hml, hk', hc', hE, hok, hel, hzl, hes⟩
          obtain ⟨hi, rfl⟩ := rng_get hi
          have hi : i < m.toNat := by omega
          have hdz : row.drop (q + 3 + z) = Y.drop z := by rw [← List.drop_drop, hd3]
          rw [show m.toNat - i = (m.toNat - (i + 1)) + 1 by omega] at hes
          have hre := read_entry_ok hk' hb (by omega)
          rw [hdz] at hre
          rw [esAt_succ] at hes
          walk_at "w"
          refine fo_use hre ?_
          intro a M2 ha
          cases e1 : enAt (Y.drop z) with
          | none =>
            rw [e1] at ha hes
            have ha : a = .val .non := ha
            subst ha
            rw [hes] at hVe
            have hVe : V = none := hVe
            subst hVe
            walk_at "w"
            exact rfl
          | some ez =>
            obtain ⟨en, z1⟩ := ez
            rw [e1] at ha hes
            obtain ⟨rfl, rfl⟩ := ha
            obtain ⟨g1, g2, g3⟩ := en_of (fun y hy => hYb y (List.mem_of_mem_drop hy)) e1
            rw [List.length_drop] at g2
            have hsl : (M'.set M.length (oC row (q + 3 + z + z1) false)).length = M'.length := List.length_set
            have hk2 : (M'.set M.length (oC row (q + 3 + z + z1) false) ++ [.lst (en.places.map D.int)])[M.length]? = some (oC row (q + 3 + z + z1) false) := by
              rw [List.getElem?_append_left (by omega)]; exact List.getElem?_set_self (by omega)
            have hc2 : (M'.set M.length (oC row (q + 3 + z + z1) false) ++ [.lst (en.places.map D.int)])[M.length + 1]? = some (.lst ds) := by
              rw [List.getElem?_append_left (by omega), List.getElem?_set_ne (by omega)]; exact hc'
            have hE2 : Ens (M'.set M.length (oC row (q + 3 + z + z1) false) ++ [.lst (en.places.map D.int)]) (M.length + 2) ds es := (hE.set (by omega)).app _
            have hpl : (M'.set M.length (oC row (q + 3 + z + z1) false) ++ [.lst (en.places.map D.int)])[M'.length]? = some (.lst (en.places.map D.int)) := by
              rw [← hsl]; exact app_at _ _ _
            have hl2 : (M'.set M.length (oC row (q + 3 + z + z1) false) ++ [Cn.lst (en.places.map D.int)]).length = M'.length + 1 := by rw [List.length_append, hsl]; rfl
            generalize M'.set M.length (oC row (q + 3 + z + z1) false) ++ [Cn.lst (en.places.map D.int)] = M3 at *
            walk_at "w"
            refine fo_eq (may_follow_ok hc2 hE2 hok g1 (by omega)) ?_
            dsimp only at hes
            walk_at "w"
            cases hmf : mayF en es with
            | false =>
              rw [hmf] at hes
              have hes : esAt m.toNat [] Y = none := hes
              rw [hes] at hVe
              have hVe : V = none := hVe
              subst hVe
              walk_at "w"
              exact rfl
            | true =>
              rw [hmf, if_pos rfl] at hes
              have hdl := hE2.len
              walk_at "w"
              refine w_app (l := ds) (getC_cid hc2) (by show _ < 16777216; omega) ?_
              walk_at "w"
              refine ⟨_, _, _, ds ++ [.tup [.int en.text, .str (nmS en.name), .int en.len, .cid M'.length]], es ++ [en], z + z1, rfl, by show M.length + 2 ≤ (M3.set _ _).length; rw [List.length_set]; omega, ?_, ?_, ?_, ?_, by rw [List.length_append, hel]; rfl, by omega, ?_⟩
              · show (M3.set (M.length + 1) _)[M.length]? = _
                rw [List.getElem?_set_ne (by omega), hk2, show q + 3 + z + z1 = q + 3 + (z + z1) by omega]
              · show (M3.set (M.length + 1) _)[M.length + 1]? = _
                exact List.getElem?_set_self (by omega)
              · show Ens (M3.set (M.length + 1) _) _ _ _
                exact (hE2.snoc (by omega) hpl).set (by omega)
              · intro e' he'
                rcases List.mem_append.mp he' with he' | he'
                · exact hok e' he'
                · simp at he'; subst he'; exact g1
              · rw [hes, List.drop_drop, Option.map_map]
                congr 1
                funext r
                show (r.1, z + (z1 + r.2)) = (r.1, z + z1 + r.2)
                rw [Nat.add_assoc]
        · rintro s ⟨e5, e6, M', ds, es, z, rfl, hml, hk', hc', hE, hok, hel, hzl, hes⟩
          rw [rng_len] at hel hes
          rw [Nat.sub_self] at hes
          have hes : esAt m.toNat [] Y = some (es, z + 0) := hes
          rw [hes] at hVe
          dsimp only [Nat.add_zero] at hVe
          have hbt : Z.Byt (m :: Y.take z) := fun y hy => by
            rcases List.mem_cons.mp hy with rfl | hy
            · omega
            · have := hYb y (List.mem_of_mem_take hy); omega
          have htk1 : ((row.drop (q + 3 + z)).take 2) = (Y.drop z).take 2 := by rw [← List.drop_drop, hd3]
          have htk2 : ((row.drop (q + 2)).take (q + 3 + z - (q + 2))) = m :: Y.take z := by rw [hd2, show q + 3 + z - (q + 2) = z + 1 by omega]; rfl
          walk_at "w"
          rw [cutL_part _ (by omega) (by omega), Int.toNat_natCast, show (((q + 3 + z : Nat) : Int) + 2).toNat - (q + 3 + z) = 2 by omega, ← List.map_drop, ← List.map_take, htk1]
          walk_at "w"
          rw [cutL_part _ (by omega) (by omega), Int.toNat_natCast, show ((q : Int) + 2).toNat = q + 2 by omega, ← List.map_drop, ← List.map_take, htk2]
          walk_at "w"
          refine fo_eq (crc_row_ok hbt _) ?_
          walk_at "w"
          refine w_ne (_root_.Y.eqOf_ints (ns := (Y.drop z).take 2) (ms := crcB (m :: Y.take z)) rfl rfl (.inl rfl) (.inl rfl)) ?_
          walk_at "w"
          by_cases hcr : (Y.drop z).take 2 = crcB (m :: Y.take z)
          · rw [if_neg (fun hh => hh hcr)] at hVe
            rw [decide_eq_true hcr]
            subst hVe
            walk_at "w"
            exact ⟨M.length + 1, ds, by omega, by rw [show ((q + 3 + z : Nat) : Int) + 2 = ((q + (z + 5) : Nat) : Int) by omega], hc', hE⟩
          · rw [if_pos hcr] at hVe
            rw [decide_eq_false hcr]
            subst hVe
            walk_at "w"
            exact rfl
    · have hV0 : V = none := by
        rw [← hV]
        unfold bkAt
        split
        · rename_i a b m Y e
          have := congrArg List.length e
          rw [List.length_drop] at this
          simp only [List.length_cons] at this
          omega
        · rfl
      subst hV0
      have hsh : (false || decide (((row.drop (q + 2)).take 1).length < 1)) = true := by
        rw [decide_eq_true (num_lt (by decide) (by omega))]; rfl
      rw [hsh]
      generalize numB ((row.drop (q + 2)).take 1) = m
      have hk1 : (M ++ [oC row (q + 2 + 1) true, .lst []])[M.length]? = some (oC row (q + 3) true) := app_at M _ _
      walk_at "wi"
      rw [List.append_assoc]
      show Ws _ _ (mSeq _ _ ⟨_, M ++ [oC row (q + 2 + 1) true, .lst []]⟩)
      walk_at "w"
      exact rfl
  · rw [decide_eq_false hmk]
    have hV0 : V = none := by
      rw [← hV]
      unfold bkAt
      split
      · rename_i a b m Y e
        rw [e] at hmk
        rw [if_pos (by
          by_cases ha : a = 165
          · refine .inr (.inl fun hb' => hmk ?_)
            rw [ha, hb']; rfl
          · exact .inl ha)]
      · rfl
    subst hV0
    walk_at "w"
    exact rfl

/-! ### a book at a place, told as plain data -/
theorem bk_flw {R : List Int} (hb : ∀ b ∈ R, 0 ≤ b ∧ b ≤ 255) {es : List En} {z : Nat} (h : bkAt R = some (es, z)) : (∀ e ∈ es, EnOk e) ∧ es.length ≤ 30 := by
  obtain ⟨_, h2⟩ := bk_of hb h
  exact ⟨flw_ok h2.fl, h2.le⟩
theorem mapO_rsv_en (f : Nat) (M : List Cn) (es : List En) : mapO (rsv (f + 3) M) (es.map dEn) = some (es.map dEn) := mapO_map (fun t => dEn_rsv f M t) es
theorem Ens.rsvF {M : List Cn} {lo : Nat} (f : Nat) : ∀ {ds : List D} {es : List En}, Ens M lo ds es → mapO (Y.rsv (f + 3) M) ds = some (es.map dEn)
  | _, _, .nil => rfl
  | _, _, .cons (ds := ds) (es := es) (e := e) (c := c) l h r => by
    have q : Y.rsv (f + 3) M (.tup [.int e.text, .str (nmS e.name), .int e.len, .cid c]) = some (dEn e) := by
      refine rsv_tints (f + 2) M _ _ ?_
      simp only [mapO]
      rw [rsv_cints (f := f) h]; rfl
    show (Y.rsv (f + 3) M (.tup [.int e.text, .str (nmS e.name), .int e.len, .cid c])).bind _ = _
    rw [q, Option.bind_some, r.rsvF f]; rfl
theorem book_at_pf {row : List Int} (hb : ∀ b ∈ row, 0 ≤ b ∧ b ≤ 255) (hrl : row.length ≤ 90000) {q : Nat} (hq : q ≤ 100000) : Pf (fun a => match bkAt (row.drop q) with
    | none => a = .val .non
    | some (es, z) => a = .val (.tup [.lst (es.map dEn), .int ((q + z : Nat) : Int)])) (fun _ => False) (m_book_at [.lst (row.map D.int), .int (q : Int)] []) := by
  refine pf_fo (fo_use (book_at_fo hb hrl hq []) ?_)
  intro a M' ha
  cases e : bkAt (row.drop q) with
  | none =>
    rw [e] at ha
    have ha : a = .val .non := ha
    subst ha
    exact ⟨.non, rfl, rfl⟩
  | some v =>
    obtain ⟨es, z⟩ := v
    rw [e] at ha
    obtain ⟨c, ds, h1, rfl, h2, h3⟩ := ha
    refine ⟨_, ?_, rfl⟩
    refine rsv_tints 8 M' _ _ ?_
    simp only [mapO]
    rw [rsv_cid h2, h3.rsvF 4]; rfl

/-! ### the law's own writing -/
theorem ng1 : ∀ b ∈ NB, b.toNat ∈ [45, 46] → sIdx (Str.ofString "-.") (tx [b.toNat]) = some (b - 45).toNat := by decide +kernel
theorem ng2 : ∀ b ∈ NB, b.toNat ∈ [48, 49, 50, 51, 52, 53, 54, 55, 56, 57] → sIdx (Str.ofString "0123456789abcdefghijklmnopqrstuvwxyz") (tx [b.toNat]) = some (b - 48).toNat := by decide +kernel
theorem ng3 : ∀ b ∈ NB, b.toNat ∉ [45, 46] → b.toNat ∉ [48, 49, 50, 51, 52, 53, 54, 55, 56, 57] → sIdx (Str.ofString "0123456789abcdefghijklmnopqrstuvwxyz") (tx [b.toNat]) = some (b - 87).toNat ∧ 97 ≤ b := by decide +kernel
theorem tx_a : Str.ofString "-." = tx [45, 46] := by decide +kernel
theorem tx_d : Str.ofString "0123456789" = tx [48, 49, 50, 51, 52, 53, 54, 55, 56, 57] := by decide +kernel
theorem l_name_bytes_ok {n : List Int} (hn : ∀ b ∈ n, b ∈ NB) (hl : n.length ≤ 1000) (M : List Cn) : m_l_name_bytes [.str (nmS n)] M = .ok (.new (.lst (n.map D.int))) M := by
  refine fo_ok (P := fun _ _ => True) ?_
  walk_at "f0"; unfold b_l_name_bytes
  walk_at "w"
  rw [show strL (nmS n) = n.map fun b => D.str (tx [b.toNat]) from by unfold nmS; rw [tx_strL, List.map_map]; rfl]
  refine w_forN (fun i s => ∃ (e3 : Option Ent), s = ⟨[some (.fz (.str (nmS n))), some (.fz (.str (Str.ofString "0123456789abcdefghijklmnopqrstuvwxyz"))), some (.ow (.lst ((n.take i).map D.int))), e3], M⟩) ⟨_, rfl⟩ ?_ ?_
  · rintro i y s hi ⟨e3, rfl⟩
    obtain ⟨b, hb, rfl⟩ := map_get hi
    have hbN := hn b (List.mem_of_getElem? hb)
    have hil : i < n.length := (List.getElem?_eq_some_iff.mp hb).1
    have hbd := NB_bd b hbN
    have hnx : (n.take (i + 1)).map D.int = (n.take i).map D.int ++ [D.int b] := by
      rw [List.take_add_one, hb, List.map_append]; rfl
    have hlt : ((n.take i).map D.int).length < sizeLine := by rw [List.length_map, List.length_take]; show _ < 16777216; omega
    rw [hnx]
    walk_at "w"
    rw [tx_a]
    refine w_inS ?_
    walk_at "w"
    refine z_if (fun h1 => ?_) (fun h1 => ?_)
    · have g := ng1 b hbN h1
      walk_at "w"
      refine ⟨_, _, rfl, g, ?_⟩
      have hi2 : (b - 45).toNat < 2 := by simp at h1; omega
      refine w_ixL (d := .int b) rfl rfl rfl ?_ ?_
      · simp at h1
        rcases (show b = 45 ∨ b = 46 by omega) with rfl | rfl <;> rfl
      walk_at "w"
      refine w_app rfl hlt ?_
      walk_at "ds"
      exact ⟨_, rfl⟩
    · walk_at "w"
      rw [tx_d]
      refine w_inS ?_
      walk_at "w"
      refine z_if (fun h2 => ?_) (fun h2 => ?_)
      · have g := ng2 b hbN h2
        have hb48 : 48 ≤ b := by simp at h2; omega
        walk_at "w"
        refine ⟨_, _, rfl, g, ?_⟩
        walk_at "w"
        refine w_app rfl hlt ?_
        walk_at "ds"
        exact ⟨_, by rw [show 48 + (((b - 48).toNat : Nat) : Int) = b by omega]⟩
      · obtain ⟨g, h97⟩ := ng3 b hbN h1 h2
        walk_at "w"
        refine ⟨_, _, rfl, g, ?_⟩
        walk_at "w"
        refine w_app rfl hlt ?_
        walk_at "ds"
        exact ⟨_, by rw [show 87 + (((b - 87).toNat : Nat) : Int) = b by omega]⟩
  · rintro s ⟨e3, rfl⟩
    rw [List.length_map, List.take_length]
    walk_at "w"
    exact ⟨rfl, rfl⟩
/-- an entry that may be written, right or not -/
structure EnW (e : En) : Prop where
  t0 : 0 ≤ e.text ∧ e.text ≤ 255
  n0 : 1 ≤ e.name.length ∧ e.name.length ≤ 12
  nb : ∀ b ∈ e.name, b ∈ NB
  p0 : e.places.length ≤ 255
  pb : ∀ p ∈ e.places, 0 ≤ p ∧ p < 16777216
  l0 : 0 ≤ e.len ∧ e.len < 65536
theorem EnOk.w {e : En} (h : EnOk e) : EnW e := ⟨⟨h.t0.1, by have := h.t0; omega⟩, h.n0, h.nb, h.p0.2, h.pb, ⟨h.l0.1, by have := h.l0; have := h.p0; omega⟩⟩
theorem l_entry_ok {e : En} (h : EnW e) (M : List Cn) : m_l_entry [dEn e] M = .ok (.new (.lst ((enB e).map D.int))) M := by
  have h2 := h.n0
  have h3 := h.p0
  refine fo_ok (P := fun _ _ => True) ?_
  walk_at "f0"; unfold b_l_entry
  unfold dEn
  walk_at "w"
  refine w_len (n := e.name.length) (by exact rfl) (by show (if (nmS e.name).length ≤ sizeLine then some (nmS e.name).length else none) = _; rw [show (nmS e.name).length = e.name.length from by unfold nmS; rw [tx_len, List.length_map], if_pos (by show _ ≤ 16777216; omega)]) ?_
  walk_at "w"
  refine fo_eq (l_name_bytes_ok h.nb (by omega) M) ?_
  walk_at "w"
  refine w_addL (l := ([e.text, (e.name.length : Int)]).map D.int) (l' := e.name.map D.int) rfl rfl rfl (by rw [List.length_map, List.length_map]; show 2 + _ ≤ 16777216; omega) ?_
  rw [← List.map_append]
  walk_at "w"
  rw [List.length_map]
  refine w_addL (l := ([e.text, (e.name.length : Int)] ++ e.name).map D.int) (l' := ([(e.places.length : Int), e.len / 256, e.len % 256]).map D.int) rfl rfl rfl (by rw [List.length_map, List.length_map, List.length_append]; show 2 + _ + 3 ≤ 16777216; omega) ?_
  rw [← List.map_append]
  walk_at "w"
  refine w_forN (fun i s => ∃ (e6 : Option Ent), s = ⟨[some (.fz (.tup [.int e.text, .str (nmS e.name), .int e.len, .lst (e.places.map D.int)])), some (.fz (.int e.text)), some (.fz (.str (nmS e.name))), some (.fz (.int e.len)), some (.fz (.lst (e.places.map D.int))), some (.ow (.lst (([e.text, (e.name.length : Int)] ++ e.name ++ [(e.places.length : Int), e.len / 256, e.len % 256] ++ ((e.places.take i).map b3).flatten).map D.int))), e6], M⟩) ⟨none, by rw [List.take_zero, List.map_nil, List.flatten_nil, List.append_nil]⟩ ?_ ?_
  · rintro i y s hi ⟨e6, rfl⟩
    obtain ⟨p, hp, rfl⟩ := map_get hi
    have hpb := h.pb p (List.mem_of_getElem? hp)
    have hil : i < e.places.length := (List.getElem?_eq_some_iff.mp hp).1
    have hfl := b3_len (e.places.take i)
    rw [List.length_take] at hfl
    walk_at "w"
    refine w_addL (l := ([e.text, (e.name.length : Int)] ++ e.name ++ [(e.places.length : Int), e.len / 256, e.len % 256] ++ ((e.places.take i).map b3).flatten).map D.int) (l' := (b3 p).map D.int) rfl rfl rfl (by rw [List.length_map, List.length_map, List.length_append, List.length_append, List.length_append, hfl]; show 2 + _ + 3 + _ + 3 ≤ 16777216; omega) ?_
    rw [← List.map_append]
    walk_at "w"
    refine ⟨some (.fz (.int p)), ?_⟩
    rw [show e.places.take (i + 1) = e.places.take i ++ [p] from by rw [List.take_add_one, hp]; rfl, List.map_append (f := b3), List.flatten_append, show ([p].map b3).flatten = b3 p from by simp, List.append_assoc]
  · rintro s ⟨e6, rfl⟩
    rw [List.length_map, List.take_length]
    walk_at "w"
    refine ⟨?_, rfl⟩
    unfold enB
    simp
theorem enW_bd {e : En} (h : EnW e) : ∀ b ∈ enB e, 0 ≤ b ∧ b ≤ 255 := fun b hb => by
  have h1 := h.t0
  have h2 := h.n0
  have h3 := h.p0
  have h4 := h.l0
  unfold enB at hb
  rcases List.mem_append.mp hb with hb | hb
  · simp at hb; omega
  · rcases List.mem_append.mp hb with hb | hb
    · have := NB_bd b (h.nb b hb); omega
    · rcases List.mem_append.mp hb with hb | hb
      · simp at hb; omega
      · obtain ⟨l, hl, hb⟩ := List.mem_flatten.mp hb
        obtain ⟨p, hp, rfl⟩ := List.mem_map.mp hl
        have := h.pb p hp
        unfold b3 at hb
        simp at hb
        omega

/-! ### the law's own reading: names -/
def D0 : List (Key × D) := NB.map fun b => (.inl b, .str (tx [b.toNat]))
theorem dg_at : ∀ i : Nat, i < 10 → NB[2 + i]? = some (48 + (i : Int)) ∧ (NB.take (2 + i)).any (fun b => decide (b = 48 + (i : Int))) = false ∧ (toString (i : Int) : Str) = tx [48 + i] := by decide +kernel
theorem az_at : ∀ i : Nat, i < 26 → NB[12 + i]? = some (97 + (i : Int)) ∧ (NB.take (12 + i)).any (fun b => decide (b = 97 + (i : Int))) = false ∧ atI [97, 98, 99, 100, 101, 102, 103, 104, 105, 106, 107, 108, 109, 110, 111, 112, 113, 114, 115, 116, 117, 118, 119, 120, 121, 122] (i : Int) = some (97 + i) := by decide +kernel
theorem az_tx : Str.ofString "abcdefghijklmnopqrstuvwxyz" = tx [97, 98, 99, 100, 101, 102, 103, 104, 105, 106, 107, 108, 109, 110, 111, 112, 113, 114, 115, 116, 117, 118, 119, 120, 121, 122] := by decide +kernel
theorem d0_push {j : Nat} {b : Int} (h : NB[j]? = some b) (ha : (NB.take j).any (fun c => decide (c = b)) = false) : pu (D0.take j) (.inl b) (.str (tx [b.toNat])) = D0.take (j + 1) := by
  have e1 : ((D0.take j).any fun p => decide (p.1 = (.inl b : Key))) = false := by
    unfold D0
    rw [← List.map_take, List.any_map]
    rw [← ha]
    congr 1
    funext c
    exact decide_eq_decide.mpr key_inl
  unfold pu
  rw [e1, if_neg Bool.false_ne_true, List.take_add_one]
  congr 1
  unfold D0
  rw [List.getElem?_map, h]; rfl
theorem d0_vl (b : Int) : vl D0 (.inl b) = if b ∈ NB then some (.str (tx [b.toNat])) else none := by
  unfold D0 vl
  generalize NB = l
  induction l with
  | nil => rfl
  | cons c l ih =>
    rw [List.map_cons, List.find?_cons]
    by_cases h : c = b
    · subst h
      rw [show decide (((.inl c, .str (tx [c.toNat])) : Key × D).1 = .inl c) = true from decide_eq_true rfl]
      rw [if_pos List.mem_cons_self]; rfl
    · rw [show decide (((.inl c, .str (tx [c.toNat])) : Key × D).1 = .inl b) = false from decide_eq_false (fun z => h (key_inl.mp z))]
      dsimp only
      rw [ih]
      by_cases h2 : b ∈ l
      · rw [if_pos h2, if_pos (List.mem_cons_of_mem _ h2)]
      · rw [if_neg h2, if_neg (fun z => by rcases List.mem_cons.mp z with z | z; exact h z.symm; exact h2 z)]
/-- a byte's sign, nothing where it has none -/
def sgS (b : Int) : Str := if b ∈ NB then tx [b.toNat] else tx []
theorem sgS_ok (b : Int) (h : 0 ≤ b ∧ b ≤ 255) : PyData.canLay0 (.str (sgS b)) = true := by
  unfold sgS
  split
  · rename_i h
    exact nm_ok (n := [b]) (fun c hc => by simp at hc; subst hc; exact h)
  · exact nm_ok (n := []) (fun c hc => by cases hc)
theorem sgS_in (l : List Int) : decide (tx [] ∈ l.map sgS) = !(l.all fun b => decide (b ∈ NB)) := by
  induction l with
  | nil => rfl
  | cons b l ih =>
    rw [List.map_cons, List.all_cons, Bool.not_and, ← ih]
    by_cases h : b ∈ NB
    · rw [decide_eq_true h, Bool.not_true, Bool.false_or]
      refine decide_eq_decide.mpr ⟨fun z => ?_, fun z => List.mem_cons_of_mem _ z⟩
      rcases List.mem_cons.mp z with z | z
      · unfold sgS at z
        rw [if_pos h] at z
        exact absurd (tx_inj z) (by simp)
      · exact z
    · rw [decide_eq_false h]
      simp only [Bool.not_false, Bool.true_or]
      refine decide_eq_true (List.mem_cons.mpr (.inl ?_))
      unfold sgS
      rw [if_neg h]
theorem sgS_all {l : List Int} (h : (l.all fun b => decide (b ∈ NB)) = true) : l.map sgS = l.map fun b => tx [b.toNat] := by
  refine List.map_congr_left fun b hb => ?_
  have := of_decide_eq_true (List.all_eq_true.mp h b hb)
  unfold sgS
  rw [if_pos this]
theorem w_inStr {QA : AI → Stt → Prop} {X : Exn → Stt → Prop} {s : Stt} {x : Str} {b : AI} {xs : List Str} (hb : look s b = some (.lst (xs.map D.str))) (n : viewD s b = none) (hs : ∀ y, b ≠ .val (.str y)) (hx : PyData.canLay0 (.str x) = true) (hxs : ∀ y ∈ xs, PyData.canLay0 (.str y) = true) (q : QA (.val (.bl (decide (x ∈ xs)))) s) : Wo QA X (fIn s (.val (.str x)) b) := by
  have e : inOf s (.val (.str x)) b = some (decide (x ∈ xs)) := by
    have hp : pyOf s b = some (.list (xs.map PyData.str)) := by
      unfold pyOf
      rw [hb]
      show (D.py (.lst (xs.map D.str))) = _
      show (D.pyL (xs.map D.str)).map PyData.list = _
      rw [pyL_map (g := PyData.str) (fun _ => rfl)]; rfl
    have h1 : SeqAt.shaped (.str x) = true := (lay_str hx).shaped (by decide)
    have h2 : SeqAt.shaped (.list (xs.map PyData.str)) = true := (lay_lst (k := 1) fun y hy => by
      obtain ⟨z, hz, rfl⟩ := List.mem_map.mp hy
      exact lay_str (hxs z hz)).shaped (by decide)
    unfold inOf
    split
    · exact absurd rfl (hs _)
    · rw [n]
      dsimp only
      rw [hp]
      show (if SeqAt.shaped (.str x) && SeqAt.shaped (.list (xs.map PyData.str)) then some ((xs.map PyData.str).any fun z => PyData.eqv z (.str x)) else none) = _
      rw [h1, h2, any_strs]; rfl
  show Wo QA X (match inOf s (.val (.str x)) b with | some k => .ok (.val (.bl k)) s | none => .no)
  rw [e]; exact q
theorem nm_none {m : Int} {R : List Int} (h : m < 1 ∨ 12 < m ∨ R.length < m.toNat ∨ ((R.take m.toNat).all fun b => decide (b ∈ NB)) = false) : nmAt (m :: R) = none := if_pos h
theorem nm_some {m : Int} {R : List Int} (h : ¬ (m < 1 ∨ 12 < m ∨ R.length < m.toNat ∨ ((R.take m.toNat).all fun b => decide (b ∈ NB)) = false)) : nmAt (m :: R) = some (R.take m.toNat) := if_neg h
theorem nil_can : PyData.canLay0 (.str (Str.ofString "")) = true := by
  rw [show Str.ofString "" = tx [] from by decide +kernel]
  exact nm_ok (n := []) (fun c hc => by cases hc)
theorem name_at_ok {row : List Int} (hb : ∀ b ∈ row, 0 ≤ b ∧ b ≤ 255) (hrl : row.length ≤ 90000) {p : Nat} (hp : p ≤ 800000) (M : List Cn) : Fo (fun a M' => M' = M ∧ a = match nmAt (row.drop p) with
    | none => .val .non
    | some nm => .val (.str (nmS nm))) (m_l_name_at [.lst (row.map D.int), .int (p : Int)] M) := by
  walk_at "f0"; unfold b_l_name_at
  walk_at "w"
  refine ⟨_, rfl, by decide, ?_⟩
  rw [show mgD [((.inl 45 : Key), D.str (Str.ofString "-")), (.inl 46, .str (Str.ofString "."))] = D0.take (2 + 0) from by
    rw [show Str.ofString "-" = tx [45] from by decide +kernel, show Str.ofString "." = tx [46] from by decide +kernel]; rfl]
  walk_at "w"
  refine w_forN (fun i s => ∃ e3 : Option Ent, s = ⟨[some (.fz (.lst (row.map D.int))), some (.fz (.int (p : Int))), some (.ow (.dK (D0.take (2 + i)))), e3, none, none, none], M⟩) ⟨_, rfl⟩ ?_ ?_
  · rintro i x s hi ⟨e3, rfl⟩
    obtain ⟨hi, rfl⟩ := rng_get hi
    obtain ⟨g1, g2, g3⟩ := dg_at i (by omega)
    walk_at "w"
    refine w_str (by rw [show (0 + (i : Int)).natAbs = i by omega]; exact Nat.lt_of_le_of_lt (Nat.log2_le_self i) (by omega)) ?_
    rw [show (0 + (i : Int)) = (i : Int) by omega, g3]
    walk_at "w"
    refine so_setK rfl rfl (by rw [List.length_take]; show min _ 38 < 16777216; omega) ?_
    walk_at "ds"
    have := d0_push g1 g2
    rw [show (48 + (i : Int)).toNat = 48 + i by omega] at this
    rw [this]
    exact ⟨_, rfl⟩
  rintro s ⟨e3, rfl⟩
  rw [rng_len]
  walk_at "w"
  rw [az_tx]
  refine w_forN (fun i s => ∃ e3 : Option Ent, s = ⟨[some (.fz (.lst (row.map D.int))), some (.fz (.int (p : Int))), some (.ow (.dK (D0.take (12 + i)))), e3, none, none, none], M⟩) ⟨_, rfl⟩ ?_ ?_
  · rintro i x s hi ⟨e3, rfl⟩
    obtain ⟨hi, rfl⟩ := rng_get hi
    obtain ⟨g1, g2, g3⟩ := az_at i (by omega)
    walk_at "w"
    rw [show (0 + (i : Int)) = (i : Int) by omega]
    refine w_ixS (by show 26 ≤ 16777216; decide) g3 ?_
    walk_at "w"
    refine so_setK rfl rfl (by rw [List.length_take]; show min _ 38 < 16777216; omega) ?_
    walk_at "ds"
    have := d0_push g1 g2
    rw [show (97 + (i : Int)).toNat = 97 + i by omega] at this
    rw [this]
    exact ⟨_, rfl⟩
  rintro s ⟨e3, rfl⟩
  rw [rng_len, show D0.take (12 + (26 : Int).toNat) = D0 from rfl]
  walk_at "w"
  rw [cutL_part _ (by omega) (by omega), ← List.map_drop, ← List.map_take, Int.toNat_natCast, show ((p : Int) + 1).toNat - p = 1 by omega]
  walk_at "w"
  refine w_eq (_root_.Y.eqOf_ints (ns := (row.drop p).take 1) (ms := []) rfl rfl (.inl rfl) (.inl rfl)) ?_
  by_cases hlt : p < row.length
  · have hc : row.drop p = row[p] :: row.drop (p + 1) := List.drop_eq_getElem_cons hlt
    have hm := hb row[p] (List.getElem_mem _)
    generalize row[p] = m at hc hm
    rw [hc, show (m :: row.drop (p + 1)).take 1 = [m] from rfl]
    rw [decide_eq_false (by simp)]
    walk_at "w"
    refine w_ixI (ns := [m]) rfl rfl rfl (by decide) (by show (0 : Int) < 1; decide) ?_
    show Wo _ _ _
    rw [show ([m] : List Int).getD (0 : Int).toNat 0 = m from rfl]
    walk_at "w"
    by_cases h1 : 1 ≤ m
    · rw [decide_eq_true h1]
      walk_at "w"
      by_cases h12 : m ≤ 12
      · rw [decide_eq_true h12]
        walk_at "w"
        rw [List.length_map]
        refine w_ixI (ns := [m]) rfl rfl rfl (by decide) (by show (0 : Int) < 1; decide) ?_
        rw [show ([m] : List Int).getD (0 : Int).toNat 0 = m from rfl]
        walk_at "w"
        by_cases hsh : (row.length : Int) < (p : Int) + 1 + m
        · rw [decide_eq_true hsh, nm_none (.inr (.inr (.inl (by rw [List.length_drop]; omega))))]
          walk_at "w"
          exact ⟨rfl, rfl⟩
        · rw [decide_eq_false hsh]
          walk_at "w"
          refine w_ixI (ns := [m]) rfl rfl rfl (by decide) (by show (0 : Int) < 1; decide) ?_
          rw [show ([m] : List Int).getD (0 : Int).toNat 0 = m from rfl]
          walk_at "w"
          rw [cutL_part _ (by omega) (by omega), ← List.map_drop, ← List.map_take, show ((p : Int) + 1).toNat = p + 1 by omega, show ((p : Int) + 1 + m).toNat - (p + 1) = m.toNat by omega]
          have hNb : ∀ b ∈ (row.drop (p + 1)).take m.toNat, 0 ≤ b ∧ b ≤ 255 := fun b hx => hb b (List.mem_of_mem_drop (List.mem_of_mem_take hx))
          have hNl : ((row.drop (p + 1)).take m.toNat).length ≤ 12 := by rw [List.length_take]; omega
          generalize hN : (row.drop (p + 1)).take m.toNat = N at *
          refine w_lcMap (fun d => match d with | .int b => .str (sgS b) | d => d) (by rw [List.length_map]; show _ ≤ 16777216; omega) ?_ ?_
          · intro x hx
            obtain ⟨b, hbm, rfl⟩ := List.mem_map.mp hx
            walk_at "w"
            refine ⟨_, _, rfl, rfl, ?_⟩
            walk_at "w"
            refine ⟨?_, rfl⟩
            rw [d0_vl]
            show _ = D.str (sgS b)
            unfold sgS
            split
            · rfl
            · show D.str (Str.ofString "") = _
              rw [show Str.ofString "" = tx [] from by decide +kernel]
          rw [List.map_map, show ((fun d => match d with | D.int b => D.str (sgS b) | d => d) ∘ D.int) = D.str ∘ sgS from rfl, ← List.map_map]
          walk_at "ds"
          walk_at "w"
          refine w_inStr (x := Str.ofString "") (xs := N.map sgS) rfl rfl (fun y h => by cases h) nil_can (fun y hy => ?_) ?_
          · obtain ⟨b, hbm, rfl⟩ := List.mem_map.mp hy
            exact sgS_ok b (hNb b hbm)
          rw [show Str.ofString "" = tx [] from by decide +kernel, sgS_in]
          cases hall : (N.all fun b => decide (b ∈ NB)) with
          | false =>
            rw [nm_none (.inr (.inr (.inr (by rw [hN]; exact hall))))]
            walk_at "w"
            exact ⟨rfl, rfl⟩
          | true =>
            rw [nm_some (by rw [hN, hall, List.length_drop]; rintro (h | h | h | h); omega; omega; omega; cases h), hN]
            walk_at "w"
            rw [sgS_all hall]
            refine ⟨_, by show (some _).bind strsD = _; exact strsD_map _, ?_, ?_⟩
            · rw [show (tx []).length = 0 from by decide +kernel]
              rw [sum_tx1]; omega
            · rw [show tx [] = Str.ofString "" from by decide +kernel, join_signs]
              walk_at "w"
              exact ⟨rfl, rfl⟩
      · rw [decide_eq_false h12, nm_none (.inr (.inl (by omega)))]
        walk_at "w"
        exact ⟨rfl, rfl⟩
    · rw [decide_eq_false h1, nm_none (.inl (by omega))]
      walk_at "w"
      exact ⟨rfl, rfl⟩
  · rw [List.drop_eq_nil_of_le (by omega)]
    rw [show ([] : List Int).take 1 = [] from rfl, decide_eq_true rfl]
    walk_at "w"
    exact ⟨rfl, rfl⟩

/-! ### the law's own reading: entries, books -/
theorem nm_len {nm : List Int} (h : nm.length ≤ 1000) (M : List Cn) : lenD M (.str (nmS nm)) = some nm.length := by
  show (if (nmS nm).length ≤ sizeLine then some (nmS nm).length else none) = _
  rw [show (nmS nm).length = nm.length from by unfold nmS; rw [tx_len, List.length_map], if_pos (by show _ ≤ 16777216; omega)]
theorem take3 {R : List Int} {q : Nat} (h : q + 3 ≤ R.length) : ∃ a b c, (R.drop q).take 3 = [a, b, c] ∧ R.drop q = a :: b :: c :: R.drop (q + 3) := by
  have hc : R.drop q = R[q] :: R[q + 1] :: R[q + 2] :: R.drop (q + 3) := by
    rw [List.drop_eq_getElem_cons (by omega), List.drop_eq_getElem_cons (by omega), List.drop_eq_getElem_cons (by omega)]
  exact ⟨_, _, _, by rw [hc]; rfl, hc⟩
theorem entry_at_ok {row : List Int} (hb : ∀ b ∈ row, 0 ≤ b ∧ b ≤ 255) (hrl : row.length ≤ 90000) {p : Nat} (hp : p ≤ 700000) (M : List Cn) : Fo (fun a M' => M' = M ∧ a = match enAt (row.drop p) with
    | none => .val .non
    | some (e, z) => .val (.tup [dEn e, .int ((p + z : Nat) : Int)])) (m_l_entry_at [.lst (row.map D.int), .int (p : Int)] M) := by
  generalize hV : enAt (row.drop p) = V
  walk_at "f0"; unfold b_l_entry_at
  walk_at "w"
  rw [show (p : Int) + 1 = ((p + 1 : Nat) : Int) by omega]
  refine fo_use (name_at_ok hb hrl (p := p + 1) (by omega) M) ?_
  rintro a M1 ⟨rfl, ha⟩
  cases e : nmAt (row.drop (p + 1)) with
  | none =>
    rw [e] at ha
    have ha : a = .val .non := ha
    subst ha
    have hV0 : V = none := by rw [← hV]; exact en_none1 (by rw [List.drop_drop]; exact e)
    subst hV0
    walk_at "w"
    exact ⟨rfl, rfl⟩
  | some nm =>
    rw [e] at ha
    have ha : a = .val (.str (nmS nm)) := ha
    subst ha
    have hlt : p + 1 < row.length := Classical.byContradiction fun hh => by
      rw [List.drop_eq_nil_of_le (by omega)] at e; cases e
    have hc1 : row.drop p = row[p] :: row[p + 1] :: row.drop (p + 2) := by rw [List.drop_eq_getElem_cons (by omega), List.drop_eq_getElem_cons (by omega)]
    have hgp : row.getD ((p : Int)).toNat 0 = row[p] := by rw [Int.toNat_natCast, List.getD_eq_getElem?_getD, List.getElem?_eq_getElem (by omega)]; rfl
    generalize ht : row[p] = t at hc1 hgp
    generalize hmm : row[p + 1] = m at hc1
    have htb := hb t (List.mem_of_mem_drop (i := p) (by rw [hc1]; simp))
    have hd1 : row.drop (p + 1) = m :: row.drop (p + 2) := by rw [List.drop_eq_getElem_cons (by omega), hmm]
    rw [hd1] at e
    have e : (if m < 1 ∨ 12 < m ∨ (row.drop (p + 2)).length < m.toNat ∨ (((row.drop (p + 2)).take m.toNat).all fun b => decide (b ∈ NB)) = false then none else some ((row.drop (p + 2)).take m.toNat)) = some nm := e
    split at e
    · cases e
    · rename_i hno
      injection e with e
      have hlen : ¬ (row.drop (p + 2)).length < m.toNat := fun z => hno (.inr (.inr (.inl z)))
      rw [List.length_drop] at hlen
      have hnl : nm.length = m.toNat := by rw [← e, List.length_take, List.length_drop]; omega
      have hVe : V = (if 254 < t then none else match row.drop (p + 2 + m.toNat) with
          | k :: l1 :: l2 :: R2 => match plAt k.toNat R2 with
            | none => none
            | some ps => if k = 0 ∨ 255 * k < l1 * 256 + l2 then none else some (⟨t, nm, l1 * 256 + l2, ps⟩, 5 + m.toNat + 3 * k.toNat)
          | _ => none) := by
        rw [← hV, hc1]
        unfold enAt
        dsimp only
        rw [List.drop_drop]
        by_cases h254 : 254 < t
        · rw [if_pos (.inr (.inr (.inr (.inl h254)))), if_pos h254]
        · rw [if_neg (fun hh => by rcases hh with hh | hh | hh | hh | hh; exact hno (.inl hh); exact hno (.inr (.inl hh)); exact hno (.inr (.inr (.inl hh))); exact h254 hh; exact hno (.inr (.inr (.inr hh)))), if_neg h254, e] <;> rfl
      clear hV
      have hnl12 : nm.length ≤ 12 := by omega
      walk_at "w"
      refine w_ixI rfl rfl rfl (by omega) (by omega) ?_
      rw [hgp]
      walk_at "w"
      by_cases h254 : 254 < t
      · rw [if_pos h254] at hVe
        subst hVe
        rw [decide_eq_true h254]
        walk_at "w"
        exact ⟨rfl, rfl⟩
      rw [if_neg h254] at hVe
      rw [decide_eq_false h254]
      walk_at "w"
      refine w_len (n := nm.length) (by exact rfl) (nm_len (by omega) _) ?_
      walk_at "w"
      rw [cutL_from _ (by omega), ← List.map_drop, show ((p : Int) + 2 + (nm.length : Int)).toNat = p + 2 + m.toNat by omega]
      generalize hpp : p + 2 + m.toNat = pp at *
      generalize hRR : row.drop pp = R at *
      have hRl : R.length = row.length - pp := by rw [← hRR, List.length_drop]
      walk_at "w"
      rw [List.length_map]
      by_cases h3 : 3 ≤ R.length
      · rw [decide_eq_false (by omega)]
        obtain ⟨kk, l1, l2, R2, rfl⟩ := cons3 h3
        have hkb := hb kk (List.mem_of_mem_drop (i := pp) (by rw [hRR]; simp))
        have hl1b := hb l1 (List.mem_of_mem_drop (i := pp) (by rw [hRR]; simp))
        have hl2b := hb l2 (List.mem_of_mem_drop (i := pp) (by rw [hRR]; simp))
        have hd3 : row.drop (pp + 3) = R2 := by rw [← List.drop_drop, hRR]; rfl
        dsimp only at hVe
        simp only [List.length_cons] at hRl
        walk_at "w"
        refine w_ixI (ns := kk :: l1 :: l2 :: R2) rfl rfl rfl (by decide) (by simp only [List.length_cons]; omega) ?_
        rw [show (kk :: l1 :: l2 :: R2).getD (0 : Int).toNat 0 = kk from rfl]
        walk_at "w"
        by_cases hk0 : kk = 0
        · have hV0 : V = none := by
            rw [hVe]
            cases plAt kk.toNat R2 with
            | none => rfl
            | some ps => exact if_pos (.inl hk0)
          subst hV0
          rw [decide_eq_true hk0]
          walk_at "w"
          exact ⟨rfl, rfl⟩
        rw [decide_eq_false hk0]
        walk_at "w"
        rw [List.length_map]
        refine w_ixI (ns := kk :: l1 :: l2 :: R2) rfl rfl rfl (by decide) (by simp only [List.length_cons]; omega) ?_
        rw [show (kk :: l1 :: l2 :: R2).getD (0 : Int).toNat 0 = kk from rfl]
        simp only [List.length_cons]
        walk_at "w"
        by_cases hsh : R2.length < 3 * kk.toNat
        · have hpl : plAt kk.toNat R2 = none := by
            cases q : plAt kk.toNat R2 with
            | none => rfl
            | some ps =>
              have := (pl_of (fun y hy => hb y (List.mem_of_mem_drop (i := pp + 3) (by rw [hd3]; exact hy))) q).2.2.1
              omega
          rw [hpl] at hVe
          have hVe : V = none := hVe
          subst hVe
          rw [decide_eq_true (by omega)]
          walk_at "w"
          exact ⟨rfl, rfl⟩
        rw [decide_eq_false (by omega)]
        have hpl : plAt kk.toNat R2 = some ((List.range kk.toNat).map fun j => numB ((row.drop (pp + 3 + 3 * j)).take 3)) := by rw [← hd3]; exact pl_eq (by omega)
        rw [hpl] at hVe
        dsimp only at hVe
        walk_at "w"
        refine w_ixI (ns := kk :: l1 :: l2 :: R2) rfl rfl rfl (by decide) (by simp only [List.length_cons]; omega) ?_
        rw [show (kk :: l1 :: l2 :: R2).getD (1 : Int).toNat 0 = l1 from rfl]
        walk_at "w"
        refine w_ixI (ns := kk :: l1 :: l2 :: R2) rfl rfl rfl (by decide) (by simp only [List.length_cons]; omega) ?_
        rw [show (kk :: l1 :: l2 :: R2).getD (2 : Int).toNat 0 = l2 from rfl]
        walk_at "w"
        refine w_ixI (ns := kk :: l1 :: l2 :: R2) rfl rfl rfl (by decide) (by simp only [List.length_cons]; omega) ?_
        rw [show (kk :: l1 :: l2 :: R2).getD (0 : Int).toNat 0 = kk from rfl]
        walk_at "w"
        refine w_forN (fun i s => ∃ (e6 e7 e8 e9 : Option Ent), s = ⟨[some (.fz (.lst (row.map D.int))), some (.fz (.int (p : Int))), some (.fz (.str (nmS nm))), some (.ow (.lst ((kk :: l1 :: l2 :: R2).map D.int))), some (.fz (.int (256 * l1 + l2))), some (.ow (.lst (((List.range i).map fun j => numB ((row.drop (pp + 3 + 3 * j)).take 3)).map D.int))), e6, e7, e8, e9], M1⟩) ⟨_, _, _, _, rfl⟩ ?_ ?_
        · rintro i y s hi ⟨e6, e7, e8, e9, rfl⟩
          obtain ⟨hi, rfl⟩ := rng_get hi
          obtain ⟨x1, x2, x3, q1, q2⟩ := take3 (R := row) (q := pp + 3 + 3 * i) (by omega)
          have hq3 : ((kk :: l1 :: l2 :: R2).drop (3 + 3 * i)).take 3 = [x1, x2, x3] := by rw [← hRR, List.drop_drop, show pp + (3 + 3 * i) = pp + 3 + 3 * i by omega, q1]
          walk_at "w"
          rw [cutL_part _ (by omega) (by omega), show (3 + 3 * (0 + (i : Int))).toNat = 3 + 3 * i by omega, show (6 + 3 * (0 + (i : Int))).toNat - (3 + 3 * i) = 3 by omega, ← List.map_drop, ← List.map_take, hq3]
          walk_at "w"
          have hmap : ((List.range (i + 1)).map fun j => numB ((row.drop (pp + 3 + 3 * j)).take 3)).map D.int = ((List.range i).map fun j => numB ((row.drop (pp + 3 + 3 * j)).take 3)).map D.int ++ [D.int (65536 * x1 + 256 * x2 + x3)] := by
            rw [List.range_succ, List.map_append, List.map_append, List.map_cons, List.map_nil, q1, show numB [x1, x2, x3] = 65536 * x1 + 256 * x2 + x3 from by show ((0 * 256 + x1) * 256 + x2) * 256 + x3 = _; omega]
            rfl
          have hil : (((List.range i).map fun j => numB ((row.drop (pp + 3 + 3 * j)).take 3)).map D.int).length = i := by rw [List.length_map, List.length_map, List.length_range]
          rw [hmap]
          generalize ((List.range i).map fun j => numB ((row.drop (pp + 3 + 3 * j)).take 3)).map D.int = A at *
          refine w_app rfl (by show A.length < 16777216; omega) ?_
          walk_at "ds"
          exact ⟨_, _, _, _, rfl⟩
        rintro s ⟨e6, e7, e8, e9, rfl⟩
        rw [rng_len]
        generalize ((List.range kk.toNat).map fun j => numB ((row.drop (pp + 3 + 3 * j)).take 3)) = ps at *
        walk_at "w"
        refine w_ixI (ns := kk :: l1 :: l2 :: R2) rfl rfl rfl (by decide) (by simp only [List.length_cons]; omega) ?_
        rw [show (kk :: l1 :: l2 :: R2).getD (0 : Int).toNat 0 = kk from rfl]
        walk_at "w"
        by_cases hkl : 255 * kk < l1 * 256 + l2
        · rw [if_pos (.inr hkl)] at hVe
          subst hVe
          rw [decide_eq_true (by omega)]
          walk_at "w"
          exact ⟨rfl, rfl⟩
        rw [if_neg (fun hh => hh.elim hk0 hkl)] at hVe
        subst hVe
        rw [decide_eq_false (by omega)]
        walk_at "w"
        refine w_ixI rfl rfl rfl (by omega) (by omega) ?_
        rw [hgp]
        walk_at "w"
        refine w_len (n := nm.length) (by exact rfl) (nm_len (by omega) _) ?_
        walk_at "w"
        refine w_ixI (ns := kk :: l1 :: l2 :: R2) rfl rfl rfl (by decide) (by simp only [List.length_cons]; omega) ?_
        rw [show (kk :: l1 :: l2 :: R2).getD (0 : Int).toNat 0 = kk from rfl]
        walk_at "w"
        refine ⟨rfl, ?_⟩
        show _ = AI.val (.tup [.tup [.int t, .str (nmS nm), .int (l1 * 256 + l2), .lst (ps.map D.int)], .int ((p + (5 + m.toNat + 3 * kk.toNat) : Nat) : Int)])
        rw [show l1 * 256 + l2 = 256 * l1 + l2 by omega, show ((p + (5 + m.toNat + 3 * kk.toNat) : Nat) : Int) = (p : Int) + 5 + (nm.length : Int) + 3 * kk by omega]
      · rw [decide_eq_true (by omega)]
        have hV0 : V = none := by
          rw [hVe]
          match R, h3 with
          | [], _ => rfl
          | [_], _ => rfl
          | [_, _], _ => rfl
          | _ :: _ :: _ :: _, h3 => simp only [List.length_cons] at h3; omega
        subst hV0
        walk_at "w"
        exact ⟨rfl, rfl⟩
/-- texts rising -/
def Rise (es : List En) : Prop := es.Pairwise fun a b => a.text < b.text
theorem rise_last {es : List En} (h : Rise es) {l : En} (hl : es.getLast? = some l) : ∀ o ∈ es, o.text ≤ l.text := fun o ho => by
  obtain ⟨xs, rfl⟩ := List.getLast?_eq_some_iff.mp hl
  rcases List.mem_append.mp ho with ho | ho
  · have := (List.pairwise_append.mp h).2.2 o ho l (by simp)
    omega
  · simp at ho; subst ho; exact Int.le_refl _
theorem rise_snoc {es : List En} {e : En} (h : Rise es) (hm : mayF e es = true) : Rise (es ++ [e]) := by
  refine List.pairwise_append.mpr ⟨h, List.pairwise_singleton _ _, fun a ha b hb => ?_⟩
  simp at hb
  subst hb
  unfold mayF at hm
  cases q : es.getLast? with
  | none => rw [List.getLast?_eq_none_iff.mp q] at ha; cases ha
  | some l =>
    rw [q] at hm
    have h1 : l.text < b.text := of_decide_eq_true (Bool.and_eq_true _ _ ▸ hm).1
    have := rise_last h q a ha
    omega
/-- an entry that stands in another one's way -/
def badE (e o : En) : Bool := decide (e.text ≤ o.text) || decide (o.name = e.name)
theorem may_filter {es : List En} {e : En} (h : Rise es) : mayF e es = (es.filter (badE e)).isEmpty := by
  rw [Bool.eq_iff_iff, List.isEmpty_iff, List.filter_eq_nil_iff]
  unfold mayF
  constructor
  · intro hm o ho
    obtain ⟨h1, h2⟩ := (Bool.and_eq_true _ _).mp hm
    unfold badE
    cases q : es.getLast? with
    | none => rw [List.getLast?_eq_none_iff.mp q] at ho; cases ho
    | some l =>
      rw [q] at h1
      have h1 : l.text < e.text := of_decide_eq_true h1
      have := rise_last h q o ho
      have h3 : e.name ∉ es.map En.name := by simpa using h2
      rw [decide_eq_false (by omega), decide_eq_false (fun z => h3 (List.mem_map.mpr ⟨o, ho, z⟩))]
      decide
  · intro hall
    have hb : ∀ o ∈ es, ¬ e.text ≤ o.text ∧ ¬ o.name = e.name := fun o ho => by
      have := hall o ho
      unfold badE at this
      simpa using this
    refine (Bool.and_eq_true _ _).mpr ⟨?_, ?_⟩
    · cases q : es.getLast? with
      | none => rfl
      | some l =>
        have := (hb l (List.mem_of_getLast? q)).1
        exact decide_eq_true (by omega)
    · have : e.name ∉ es.map En.name := fun z => by
        obtain ⟨o, ho, e1⟩ := List.mem_map.mp z
        exact (hb o ho).2 e1
      simpa using this
theorem nm_can {n : List Int} (h : ∀ b ∈ n, b ∈ NB) : PyData.strOk (nmS n) = true := nm_ok h
theorem nm_dec {a b : List Int} (ha : ∀ x ∈ a, x ∈ NB) (hb : ∀ x ∈ b, x ∈ NB) : decide (nmS a = nmS b) = decide (a = b) := decide_eq_decide.mpr ⟨nmS_inj ha hb, fun z => by rw [z]⟩
theorem due_ok {row : List Int} (hb : ∀ b ∈ row, 0 ≤ b ∧ b ≤ 255) (hrl : row.length ≤ 90000) {q : Nat} (hq : q ≤ 100000) (M : List Cn) : Fo (fun a M' => M' = M ∧ a = match bkAt (row.drop q) with
    | none => .val .non
    | some (es, z) => .val (.tup [.lst (es.map dEn), .int ((q + z : Nat) : Int)])) (m_l_due [.lst (row.map D.int), .int (q : Int)] M) := by
  generalize hV : bkAt (row.drop q) = V
  walk_at "f0"; unfold b_l_due
  walk_at "w"
  rw [cutL_part _ (by omega) (by omega), ← List.map_drop, ← List.map_take, Int.toNat_natCast, show ((q : Int) + 2).toNat - q = 2 by omega]
  walk_at "w"
  refine w_ne (_root_.Y.eqOf_ints (ns := (row.drop q).take 2) (ms := [165, 91]) rfl rfl (.inl rfl) (.inl rfl)) ?_
  by_cases hmk : (row.drop q).take 2 = [165, 91]
  · rw [decide_eq_true hmk]
    walk_at "w"
    rw [List.length_map]
    by_cases h5 : q + 5 ≤ row.length
    · rw [decide_eq_false (by omega)]
      obtain ⟨a, b, m, Y, e⟩ := cons3 (R := row.drop q) (by rw [List.length_drop]; omega)
      rw [e] at hmk hV
      obtain ⟨rfl, rfl⟩ : a = 165 ∧ b = 91 := by
        have hmk : [a, b] = [165, 91] := hmk
        injection hmk with h1 h2; injection h2 with h2 _; exact ⟨h1, h2⟩
      have hd2 : row.drop (q + 2) = m :: Y := by rw [← List.drop_drop, e]; rfl
      have hd3 : row.drop (q + 3) = Y := by rw [← List.drop_drop, e]; rfl
      have hm := hb m (List.mem_of_mem_drop (i := q) (by rw [e]; simp))
      have hYl : Y.length = row.length - (q + 3) := by rw [← hd3, List.length_drop]
      have hYb : ∀ y ∈ Y, 0 ≤ y ∧ y ≤ 255 := fun y hy => hb y (List.mem_of_mem_drop (i := q + 3) (by rw [hd3]; exact hy))
      have hgm : row.getD ((q : Int) + 2).toNat 0 = m := by
        have : (row.drop (q + 2))[0]? = some m := by rw [hd2]; rfl
        rw [List.getElem?_drop] at this
        rw [show ((q : Int) + 2).toNat = q + 2 by omega, List.getD_eq_getElem?_getD, show q + 2 = q + 2 + 0 from rfl, this]; rfl
      have hVe : V = (if 30 < m then none else match esAt m.toNat [] Y with
          | none => none
          | some (es, z) => if (Y.drop z).take 2 ≠ crcB (m :: Y.take z) then none else some (es, z + 5)) := by
        rw [← hV]
        unfold bkAt
        dsimp only
        by_cases h30 : 30 < m
        · rw [if_pos (.inr (.inr h30)), if_pos h30]
        · rw [if_neg (by omega), if_neg h30] <;> rfl
      clear hV
      walk_at "w"
      refine w_ixI rfl rfl rfl (by omega) (by omega) ?_
      rw [hgm]
      walk_at "w"
      by_cases h30 : 30 < m
      · rw [if_pos h30] at hVe
        subst hVe
        rw [decide_eq_true h30]
        walk_at "w"
        exact ⟨rfl, rfl⟩
      rw [if_neg h30] at hVe
      rw [decide_eq_false h30]
      walk_at "w"
      refine w_ixI rfl rfl rfl (by omega) (by omega) ?_
      rw [hgm]
      walk_at "w"
      refine w_forN (fun i s => ∃ (e4 e5 e6 : Option Ent) (es : List En) (z : Nat), s = ⟨[some (.fz (.lst (row.map D.int))), some (.fz (.int (q : Int))), some (.fz (.int ((q + 3 + z : Nat) : Int))), some (.ow (.lst (es.map dEn))), e4, e5, e6, none], M⟩ ∧ (∀ e ∈ es, EnOk e) ∧ Rise es ∧ es.length = i ∧ z ≤ Y.length ∧ esAt m.toNat [] Y = (esAt (m.toNat - i) es (Y.drop z)).map fun r => (r.1, z + r.2)) ⟨_, _, _, [], 0, by rw [show (q : Int) + 3 = ((q + 3 + 0 : Nat) : Int) by omega]; rfl, (fun e he => by cases he), List.Pairwise.nil, rfl, Nat.zero_le _, by rw [Nat.sub_zero, List.drop_zero]; cases esAt m.toNat [] Y with
          | none => rfl
          | some r => show some r = some (r.1, 0 + r.2); rw [Nat.zero_add]⟩ ?_ ?_
      · rintro i x s hi ⟨e4, e5, e6, es, z, rfl, hok, hri, hel, hzl, hes⟩
        obtain ⟨hi, rfl⟩ := rng_get hi
        have hi : i < m.toNat := by omega
        have hdz : row.drop (q + 3 + z) = Y.drop z := by rw [← List.drop_drop, hd3]
        rw [show m.toNat - i = (m.toNat - (i + 1)) + 1 by omega] at hes
        have hre := entry_at_ok hb hrl (p := q + 3 + z) (by omega) M
        rw [hdz] at hre
        rw [esAt_succ] at hes
        walk_at "w"
        refine fo_use hre ?_
        rintro a M2 ⟨rfl, ha⟩
        cases e1 : enAt (Y.drop z) with
        | none =>
          rw [e1] at ha hes
          have ha : a = .val .non := ha
          subst ha
          rw [hes] at hVe
          have hVe : V = none := hVe
          subst hVe
          walk_at "w"
          exact ⟨rfl, rfl⟩
        | some ez =>
          obtain ⟨en, z1⟩ := ez
          rw [e1] at ha hes
          have ha : a = .val (.tup [dEn en, .int ((q + 3 + z + z1 : Nat) : Int)]) := ha
          subst ha
          obtain ⟨g1, g2, g3⟩ := en_of (fun y hy => hYb y (List.mem_of_mem_drop hy)) e1
          rw [List.length_drop] at g2
          dsimp only at hes
          walk_at "w"
          refine w_lcFil (fun d => match d with | .tup [.int t, .str n, _, _] => decide (en.text ≤ t) || decide (n = nmS en.name) | _ => false) (fun d => d) (by rw [List.length_map]; show _ ≤ 16777216; omega) ?_ ?_
          · intro x hx
            obtain ⟨o, ho, rfl⟩ := List.mem_map.mp hx
            unfold dEn
            walk_at "w"
            refine w_ixT (d := .int o.text) rfl rfl rfl rfl rfl ?_
            walk_at "w"
            refine w_ixT (d := .int en.text) rfl rfl rfl rfl rfl ?_
            walk_at "w"
            by_cases h1 : en.text ≤ o.text
            · rw [decide_eq_true h1]
              walk_at "w"
              refine ⟨rfl, ?_⟩
              walk_at "w"
              exact ⟨rfl, rfl⟩
            · rw [decide_eq_false h1]
              walk_at "w"
              refine w_ixT (d := .str (nmS o.name)) rfl rfl rfl rfl rfl ?_
              walk_at "w"
              refine w_ixT (d := .str (nmS en.name)) rfl rfl rfl rfl rfl ?_
              walk_at "w"
              refine w_eqS (nm_can (hok o ho).nb) (nm_can g1.nb) ?_
              walk_at "w"
              refine ⟨rfl, ?_⟩
              by_cases h2 : nmS o.name = nmS en.name
              · rw [decide_eq_true h2]
                walk_at "w"
                exact ⟨rfl, rfl⟩
              · rw [decide_eq_false h2]
                exact rfl
          have hfe : (es.map dEn).filter (fun d => match d with | .tup [.int t, .str n, _, _] => decide (en.text ≤ t) || decide (n = nmS en.name) | _ => false) = (es.filter (badE en)).map dEn := by
            rw [List.filter_map]
            congr 1
            refine List.filter_congr fun o ho => ?_
            show (decide (en.text ≤ o.text) || decide (nmS o.name = nmS en.name)) = _
            rw [nm_dec (hok o ho).nb g1.nb]; rfl
          rw [hfe, List.map_id']
          have hmf := may_filter (e := en) hri
          have hFok : ∀ e ∈ es.filter (badE en), EnOk e := fun e he => hok e (List.mem_filter.mp he).1
          generalize es.filter (badE en) = F at *
          walk_at "ds"
          walk_at "w"
          refine w_ne (k := F.isEmpty) (eqOf_of (x := .list (F.map pyEn)) (y := .list []) ?_ rfl ((lay_ens hFok).shaped (by decide)) rfl ?_) ?_
          · show (D.py (.lst (F.map dEn))) = _
            show (D.pyL (F.map dEn)).map PyData.list = _
            rw [pyL_map dEn_py]; rfl
          · cases F <;> rfl
          cases hF : F.isEmpty with
          | false =>
            rw [hF] at hmf
            rw [hmf] at hes
            have hes : esAt m.toNat [] Y = none := hes
            rw [hes] at hVe
            have hVe : V = none := hVe
            subst hVe
            walk_at "w"
            exact ⟨rfl, rfl⟩
          | true =>
            rw [hF] at hmf
            rw [hmf, if_pos rfl] at hes
            walk_at "w"
            refine w_app rfl (by rw [List.length_map]; show _ < 16777216; omega) ?_
            walk_at "ds"
            refine ⟨_, _, _, es ++ [en], z + z1, by rw [List.map_append, show q + 3 + z + z1 = q + 3 + (z + z1) by omega]; rfl, fun e' he' => ?_, rise_snoc hri hmf, by rw [List.length_append, hel]; rfl, by omega, ?_⟩
            · rcases List.mem_append.mp he' with he' | he'
              · exact hok e' he'
              · simp at he'; subst he'; exact g1
            · rw [hes, List.drop_drop, Option.map_map]
              congr 1
              funext r
              show (r.1, z + (z1 + r.2)) = (r.1, z + z1 + r.2)
              rw [Nat.add_assoc]
      · rintro s ⟨e4, e5, e6, es, z, rfl, hok, hri, hel, hzl, hes⟩
        rw [rng_len] at hel hes
        rw [Nat.sub_self] at hes
        have hes : esAt m.toNat [] Y = some (es, z + 0) := hes
        rw [hes] at hVe
        dsimp only [Nat.add_zero] at hVe
        have hbt : Z.Byt (m :: Y.take z) := fun y hy => by
          rcases List.mem_cons.mp hy with rfl | hy
          · omega
          · have := hYb y (List.mem_of_mem_take hy); omega
        have htk1 : ((row.drop (q + 3 + z)).take 2) = (Y.drop z).take 2 := by rw [← List.drop_drop, hd3]
        have htk2 : ((row.drop (q + 2)).take (q + 3 + z - (q + 2))) = m :: Y.take z := by rw [hd2, show q + 3 + z - (q + 2) = z + 1 by omega]; rfl
        walk_at "w"
        rw [cutL_part _ (by omega) (by omega), Int.toNat_natCast, show (((q + 3 + z : Nat) : Int) + 2).toNat - (q + 3 + z) = 2 by omega, ← List.map_drop, ← List.map_take, htk1]
        walk_at "w"
        rw [cutL_part _ (by omega) (by omega), Int.toNat_natCast, show ((q : Int) + 2).toNat = q + 2 by omega, ← List.map_drop, ← List.map_take, htk2]
        walk_at "w"
        refine fo_eq (l_sum_ok hbt _) ?_
        walk_at "w"
        refine w_ne (_root_.Y.eqOf_ints (ns := (Y.drop z).take 2) (ms := crcB (m :: Y.take z)) rfl rfl (.inl rfl) (.inl rfl)) ?_
        by_cases hcr : (Y.drop z).take 2 = crcB (m :: Y.take z)
        · rw [if_neg (fun hh => hh hcr)] at hVe
          rw [decide_eq_true hcr]
          subst hVe
          walk_at "w"
          exact ⟨rfl, by rw [show ((q + 3 + z : Nat) : Int) + 2 = ((q + (z + 5) : Nat) : Int) by omega]⟩
        · rw [if_pos hcr] at hVe
          rw [decide_eq_false hcr]
          subst hVe
          walk_at "w"
          exact ⟨rfl, rfl⟩
    · rw [decide_eq_true (by omega)]
      have hV0 : V = none := by
        rw [← hV]
        cases q2 : bkAt (row.drop q) with
        | none => rfl
        | some v =>
          obtain ⟨es, z⟩ := v
          obtain ⟨h1, h2⟩ := bk_of (fun y hy => hb y (List.mem_of_mem_drop hy)) q2
          have h3 := congrArg List.length h2.eq
          simp only [List.length_append, crcB_len, List.length_cons, List.length_nil, List.length_take, List.length_drop] at h3
          rw [List.length_drop] at h1
          omega
      subst hV0
      walk_at "w"
      exact ⟨rfl, rfl⟩
  · rw [decide_eq_false hmk]
    have hV0 : V = none := by
      rw [← hV]
      unfold bkAt
      split
      · rename_i a b m Y e
        rw [e] at hmk
        rw [if_pos (by
          by_cases ha : a = 165
          · refine .inr (.inl fun hb' => hmk ?_)
            rw [ha, hb']; rfl
          · exact .inl ha)]
      · rfl
    subst hV0
    walk_at "w"
    exact ⟨rfl, rfl⟩

/-! ### the law's draws -/
structure Drw (M : List Cn) (k : Nat) : Prop where
  at_ : ∃ a b : Int, M[k]? = some (.lst [.int a, .int b])
/-- all but the draws stands as it stood -/
structure Kpt (M M' : List Cn) (k : Nat) : Prop where
  dr : Drw M' k
  len : M'.length = M.length
  oth : ∀ i, i ≠ k → M'[i]? = M[i]?
theorem Kpt.trans {M M' M'' : List Cn} {k : Nat} (h : Kpt M M' k) (h' : Kpt M' M'' k) : Kpt M M'' k := ⟨h'.dr, h'.len.trans h.len, fun i hi => (h'.oth i hi).trans (h.oth i hi)⟩
theorem Kpt.refl {M : List Cn} {k : Nat} (h : Drw M k) : Kpt M M k := ⟨h, rfl, fun _ _ => rfl⟩
theorem Drw.kept {M : List Cn} {k : Nat} (h : k < M.length) (a b : Int) : Kpt M (M.set k (.lst [.int a, .int b])) k := ⟨⟨a, b, List.getElem?_set_self h⟩, List.length_set, fun i hi => List.getElem?_set_ne (fun z => hi z.symm)⟩
theorem draw_ok (c : Int) (M : List Cn) : Fo (fun r M' => ∃ a b : Int, r = .new (.lst [.int a, .int b]) ∧ M' = M) (m_l_draw [.int c] M) := by
  walk_at "f0"; unfold b_l_draw
  walk_at "w"
  exact ⟨_, _, rfl, rfl⟩
theorem next_ok {M : List Cn} {k : Nat} (h : Drw M k) {z : Int} (hz : 0 < z) (hz2 : z < 1073741824) : Fo (fun r M' => ∃ x : Int, r = .val (.int x) ∧ 0 ≤ x ∧ x < z ∧ Kpt M M' k) (m_l_next [.cid k, .int z] M) := by
  obtain ⟨a, b, hM⟩ := h.at_
  have hk := (List.getElem?_eq_some_iff.mp hM).1
  walk_at "f0"; unfold b_l_next
  walk_at "w"
  refine w_ixL (l := [.int a, .int b]) (d := .int b) rfl (viewD_cid hM) (viewL_cid hM) rfl ?_
  walk_at "w"
  refine so_setLst (getC_cid hM) (j := 1) rfl ?_
  walk_at "ds"
  have hM1 : (M.set k (.lst [.int a, .int ((b * 48271 + 11) % 2147483647)]))[k]? = some (.lst [.int a, .int ((b * 48271 + 11) % 2147483647)]) := List.getElem?_set_self hk
  have hb0 : 0 ≤ (b * 48271 + 11) % 2147483647 ∧ (b * 48271 + 11) % 2147483647 < 2147483647 := by omega
  generalize (b * 48271 + 11) % 2147483647 = c at *
  walk_at "w"
  refine w_ixL (l := [.int a, .int c]) (d := .int a) rfl (viewD_cid hM1) (viewL_cid hM1) rfl ?_
  walk_at "w"
  refine z_if (fun ha => ?_) (fun ha => ?_)
  · walk_at "w"
    refine w_ixL (l := [.int a, .int c]) (d := .int a) rfl (viewD_cid hM1) (viewL_cid hM1) rfl ?_
    walk_at "w"
    refine w_ixL (l := [.int a, .int c]) (d := .int a) rfl (viewD_cid hM1) (viewL_cid hM1) rfl ?_
    walk_at "w"
    refine so_setLst (getC_cid hM1) (j := 0) rfl ?_
    walk_at "ds"
    rw [List.set_set]
    walk_at "w"
    exact ⟨_, rfl, Int.emod_nonneg _ (by omega), Int.emod_lt_of_pos _ hz, Drw.kept hk _ _⟩
  · walk_at "w"
    refine w_ixL (l := [.int a, .int c]) (d := .int c) rfl (viewD_cid hM1) (viewL_cid hM1) rfl ?_
    walk_at "w"
    refine w_ixL (l := [.int a, .int c]) (d := .int c) rfl (viewD_cid hM1) (viewL_cid hM1) rfl ?_
    walk_at "w"
    exact ⟨_, rfl, Int.emod_nonneg _ (by omega), Int.emod_lt_of_pos _ hz, Drw.kept hk _ _⟩

/-! ### the law's draws: names, places, entries -/
theorem sg_at : ∀ y < 38, atI [45, 46, 48, 49, 50, 51, 52, 53, 54, 55, 56, 57, 97, 98, 99, 100, 101, 102, 103, 104, 105, 106, 107, 108, 109, 110, 111, 112, 113, 114, 115, 116, 117, 118, 119, 120, 121, 122] ((y : Nat) : Int) = some (NB.getD y 0).toNat ∧ NB.getD y 0 ∈ NB := by decide +kernel
theorem l_name_ok {M : List Cn} {k : Nat} (h : Drw M k) : Fo (fun r M' => ∃ n : List Int, r = .val (.str (nmS n)) ∧ (1 ≤ n.length ∧ n.length ≤ 12) ∧ (∀ b ∈ n, b ∈ NB) ∧ Kpt M M' k) (m_l_name [.cid k] M) := by
  walk_at "f0"; unfold b_l_name
  rw [signs_tx]
  walk_at "w"
  refine fo_use (next_ok h (z := 12) (by decide) (by decide)) ?_
  rintro _ M1 ⟨x, rfl, x0, x1, hk1⟩
  walk_at "w"
  refine fo_use (next_ok hk1.dr (z := 4) (by decide) (by decide)) ?_
  rintro _ M2 ⟨y, rfl, y0, y1, hk2⟩
  have hk := hk1.trans hk2
  walk_at "w"
  refine w_ixI (ns := [1 + x, 1, 12, 2]) rfl rfl rfl y0 (by show y < 4; omega) ?_
  have hsz : 1 ≤ ([1 + x, 1, 12, 2] : List Int).getD y.toNat 0 ∧ ([1 + x, 1, 12, 2] : List Int).getD y.toNat 0 ≤ 12 := by
    rcases (show y = 0 ∨ y = 1 ∨ y = 2 ∨ y = 3 by omega) with rfl | rfl | rfl | rfl
    · show 1 ≤ 1 + x ∧ 1 + x ≤ 12; omega
    · show (1 : Int) ≤ 1 ∧ (1 : Int) ≤ 12; decide
    · show (1 : Int) ≤ 12 ∧ (12 : Int) ≤ 12; decide
    · show (1 : Int) ≤ 2 ∧ (2 : Int) ≤ 12; decide
  generalize ([1 + x, 1, 12, 2] : List Int).getD y.toNat 0 = sz at *
  clear hk1 hk2
  walk_at "w"
  refine w_lcInv (fun j acc s => ∃ (A : List Int) (M' : List Cn), s = ⟨[some (.fz (.cid k)), some (.fz (.str (tx [45, 46, 48, 49, 50, 51, 52, 53, 54, 55, 56, 57, 97, 98, 99, 100, 101, 102, 103, 104, 105, 106, 107, 108, 109, 110, 111, 112, 113, 114, 115, 116, 117, 118, 119, 120, 121, 122]))), some (.fz (.int sz)), none], M'⟩ ∧ acc = (A.map fun b : Int => tx [b.toNat]).map D.str ∧ A.length = j ∧ (∀ b ∈ A, b ∈ NB) ∧ Kpt M M' k) ⟨[], M2, rfl, rfl, rfl, (fun x hx => by cases hx), hk⟩ (by rw [rng_len]; show _ ≤ 16777216; omega) ?_ ?_
  · rintro j x acc s hj ⟨A, M', rfl, rfl, hAl, hAb, hk'⟩
    obtain ⟨hj, rfl⟩ := rng_get hj
    walk_at "w"
    refine fo_use (next_ok hk'.dr (z := 38) (by decide) (by decide)) ?_
    rintro _ M'' ⟨y, rfl, y0, y1, hk2⟩
    obtain ⟨u, rfl⟩ : ∃ u : Nat, y = (u : Int) := ⟨y.toNat, by omega⟩
    obtain ⟨g1, g2⟩ := sg_at u (by omega)
    walk_at "w"
    refine w_ixS (by show 38 ≤ 16777216; decide) g1 ?_
    walk_at "w"
    refine ⟨A ++ [NB.getD u 0], M'', rfl, by rw [List.map_append, List.map_append]; rfl, by rw [List.length_append, hAl]; rfl, fun b hb => ?_, hk'.trans hk2⟩
    rcases List.mem_append.mp hb with hb | hb
    · exact hAb b hb
    · simp only [List.mem_singleton] at hb; rw [hb]; exact g2
  rintro _ _ ⟨A, M3, rfl, rfl, hAl, hAb, hk⟩
  rw [rng_len] at hAl
  walk_at "ds"
  walk_at "w"
  refine ⟨_, by show (some _).bind strsD = _; exact strsD_map _, ?_, ?_⟩
  · rw [show (Str.ofString "").length = 0 from by decide +kernel]
    rw [sum_tx1]; omega
  · rw [join_signs]
    walk_at "w"
    exact ⟨A, rfl, by omega, hAb, hk⟩
theorem pl_size {x y : Int} (x0 : 0 ≤ x ∧ x < 5) (y0 : 0 ≤ y ∧ y < 12) : 1 ≤ ([1 + x, 1, 40, 255] : List Int).getD (max 0 (y - 8)).toNat 0 ∧ ([1 + x, 1, 40, 255] : List Int).getD (max 0 (y - 8)).toNat 0 ≤ 255 := by
  rcases (show max 0 (y - 8) = 0 ∨ max 0 (y - 8) = 1 ∨ max 0 (y - 8) = 2 ∨ max 0 (y - 8) = 3 by omega) with e | e | e | e <;> rw [e]
  · show 1 ≤ 1 + x ∧ 1 + x ≤ 255; omega
  · show (1 : Int) ≤ 1 ∧ (1 : Int) ≤ 255; decide
  · show (1 : Int) ≤ 40 ∧ (40 : Int) ≤ 255; decide
  · show (1 : Int) ≤ 255 ∧ (255 : Int) ≤ 255; decide
theorem pl_at {x y z : Int} (x0 : 0 ≤ x ∧ x < 3000) (y0 : 0 ≤ y ∧ y < 16777216) (z0 : 0 ≤ z ∧ z < 4) : 0 ≤ ([x, y, 16777215, 0] : List Int).getD z.toNat 0 ∧ ([x, y, 16777215, 0] : List Int).getD z.toNat 0 < 16777216 := by
  rcases (show z = 0 ∨ z = 1 ∨ z = 2 ∨ z = 3 by omega) with e | e | e | e <;> subst e
  · show 0 ≤ x ∧ x < 16777216; omega
  · exact y0
  · show (0 : Int) ≤ 16777215 ∧ (16777215 : Int) < 16777216; decide
  · show (0 : Int) ≤ 0 ∧ (0 : Int) < 16777216; decide
theorem l_places_ok {M : List Cn} {k : Nat} (h : Drw M k) {m : Int} (hm : 1 ≤ m) : Fo (fun r M' => ∃ ps : List Int, r = .new (.lst (ps.map D.int)) ∧ (1 ≤ ps.length ∧ ps.length ≤ 255) ∧ (∀ p ∈ ps, 0 ≤ p ∧ p < 16777216) ∧ Kpt M M' k) (m_l_places [.cid k, .int m] M) := by
  walk_at "f0"; unfold b_l_places
  walk_at "w"
  refine fo_use (next_ok h (z := 5) (by decide) (by decide)) ?_
  rintro _ M1 ⟨x, rfl, x0, x1, hk1⟩
  walk_at "w"
  refine fo_use (next_ok hk1.dr (z := 12) (by decide) (by decide)) ?_
  rintro _ M2 ⟨y, rfl, y0, y1, hk2⟩
  have hk := hk1.trans hk2
  walk_at "w"
  refine w_ixI (ns := [1 + x, 1, 40, 255]) rfl rfl rfl (by omega) (by show max 0 (y - 8) < 4; omega) ?_
  have hsz := pl_size ⟨x0, x1⟩ ⟨y0, y1⟩
  generalize ([1 + x, 1, 40, 255] : List Int).getD (max 0 (y - 8)).toNat 0 = sz at *
  clear hk1 hk2
  walk_at "w"
  refine w_forN (fun j s => ∃ (A : List Int) (M' : List Cn) (e4 e5 : Option Ent), s = ⟨[some (.fz (.cid k)), some (.fz (.int m)), some (.fz (.int sz)), some (.ow (.lst (A.map D.int))), e4, e5], M'⟩ ∧ A.length = j ∧ (∀ p ∈ A, 0 ≤ p ∧ p < 16777216) ∧ Kpt M M' k) ⟨[], M2, _, _, rfl, rfl, (fun x hx => by cases hx), hk⟩ ?_ ?_
  · rintro j x acc hj ⟨A, M', e4, e5, rfl, hAl, hAb, hk'⟩
    obtain ⟨hj, rfl⟩ := rng_get hj
    walk_at "w"
    refine fo_use (next_ok hk'.dr (z := 9) (by decide) (by decide)) ?_
    rintro _ M3 ⟨y, rfl, y0, y1, hk2⟩
    replace hk' := hk'.trans hk2
    walk_at "w"
    refine fo_use (next_ok hk'.dr (z := 3000) (by decide) (by decide)) ?_
    rintro _ M4 ⟨a, rfl, a0, a1, hk2⟩
    replace hk' := hk'.trans hk2
    walk_at "w"
    refine fo_use (next_ok hk'.dr (z := 16777216) (by decide) (by decide)) ?_
    rintro _ M5 ⟨b, rfl, b0, b1, hk2⟩
    replace hk' := hk'.trans hk2
    walk_at "w"
    refine w_ixI (ns := [a, b, 16777215, 0]) rfl rfl rfl (by omega) (by show max 0 (y - 5) < 4; omega) ?_
    have hv := pl_at ⟨a0, a1⟩ ⟨b0, b1⟩ (z := max 0 (y - 5)) (by omega)
    generalize ([a, b, 16777215, 0] : List Int).getD (max 0 (y - 5)).toNat 0 = v at *
    walk_at "w"
    refine w_app rfl (by rw [List.length_map]; show _ < 16777216; omega) ?_
    walk_at "ds"
    refine ⟨A ++ [v], M5, _, _, by rw [List.map_append]; rfl, by rw [List.length_append, hAl]; rfl, fun p hp => ?_, hk'⟩
    rcases List.mem_append.mp hp with hp | hp
    · exact hAb p hp
    · simp only [List.mem_singleton] at hp; rw [hp]; exact hv
  · rintro s ⟨A, M', e4, e5, rfl, hAl, hAb, hk'⟩
    rw [rng_len] at hAl
    walk_at "w"
    exact ⟨A, rfl, by omega, hAb, hk'⟩
theorem flw_snoc : ∀ {fs es : List En} {e : En}, Flw es fs → EnOk e → mayF e (es ++ fs) = true → Flw es (fs ++ [e])
  | [], es, e, _, h1, h2 => by rw [List.append_nil] at h2; exact ⟨h1, h2, trivial⟩
  | f :: fs, es, e, ⟨a, b, c⟩, h1, h2 => ⟨a, b, flw_snoc c h1 (by rw [List.append_assoc]; exact h2)⟩
theorem en_many {x y : Int} {z : Int} (x0 : 0 ≤ x ∧ x < 5) (y0 : 0 ≤ y ∧ y < 31) (z0 : 0 ≤ z ∧ z < 3) : 0 ≤ ([x, 30, y] : List Int).getD z.toNat 0 ∧ ([x, 30, y] : List Int).getD z.toNat 0 ≤ 30 := by
  rcases (show z = 0 ∨ z = 1 ∨ z = 2 by omega) with e | e | e <;> subst e
  · show 0 ≤ x ∧ x ≤ 30; omega
  · show (0 : Int) ≤ 30 ∧ (30 : Int) ≤ 30; decide
  · show 0 ≤ y ∧ y ≤ 30; omega
theorem en_len {x m : Int} {z : Int} (x0 : 0 ≤ x ∧ x < m + 1) (z0 : 0 ≤ z ∧ z < 3) : 0 ≤ ([x, 0, m] : List Int).getD z.toNat 0 ∧ ([x, 0, m] : List Int).getD z.toNat 0 ≤ m := by
  rcases (show z = 0 ∨ z = 1 ∨ z = 2 by omega) with e | e | e <;> subst e
  · show 0 ≤ x ∧ x ≤ m; omega
  · show (0 : Int) ≤ 0 ∧ (0 : Int) ≤ m; omega
  · show 0 ≤ m ∧ m ≤ m; omega
theorem en_step {z : Int} (z0 : 0 ≤ z ∧ z < 3) : 1 ≤ ([1, 3, 8] : List Int).getD z.toNat 0 ∧ ([1, 3, 8] : List Int).getD z.toNat 0 ≤ 8 := by
  rcases (show z = 0 ∨ z = 1 ∨ z = 2 by omega) with e | e | e <;> subst e <;> decide
theorem l_entries_ok {M : List Cn} {k : Nat} (h : Drw M k) {m : Int} (hm : 1 ≤ m) : Fo (fun r M' => ∃ es : List En, r = .new (.lst (es.map dEn)) ∧ es.length ≤ 30 ∧ Flw [] es ∧ Kpt M M' k) (m_l_entries [.cid k, .int m] M) := by
  walk_at "f0"; unfold b_l_entries
  walk_at "w"
  refine fo_use (next_ok h (z := 5) (by decide) (by decide)) ?_
  rintro _ M1 ⟨x, rfl, x0, x1, hk⟩
  walk_at "w"
  refine fo_use (next_ok hk.dr (z := 31) (by decide) (by decide)) ?_
  rintro _ M2 ⟨y, rfl, y0, y1, hk2⟩
  replace hk := hk.trans hk2
  walk_at "w"
  refine fo_use (next_ok hk.dr (z := 8) (by decide) (by decide)) ?_
  rintro _ M3 ⟨z, rfl, z0, z1, hk2⟩
  replace hk := hk.trans hk2
  clear hk2
  walk_at "w"
  refine w_ixI (ns := [x, 30, y]) rfl rfl rfl (by omega) (by show max 0 (z - 5) < 3; omega) ?_
  have hsz := en_many ⟨x0, x1⟩ ⟨y0, y1⟩ (z := max 0 (z - 5)) (by omega)
  generalize ([x, 30, y] : List Int).getD (max 0 (z - 5)).toNat 0 = sz at *
  walk_at "w"
  refine w_forN (fun i s => ∃ (left text : Int) (es : List En) (M' : List Cn) (e4 e5 e6 e7 : Option Ent), s = ⟨[some (.fz (.cid k)), some (.fz (.int left)), some (.ow (.lst (es.map dEn))), some (.fz (.int text)), e4, e5, e6, e7, none], M'⟩ ∧ 1 ≤ left ∧ -1 ≤ text ∧ (∀ l, es.getLast? = some l → l.text ≤ text) ∧ es.length ≤ i ∧ Flw [] es ∧ Kpt M M' k) ⟨m, -1, [], M3, _, _, _, _, rfl, hm, by decide, (fun l hl => by cases hl), Nat.le_refl _, trivial, hk⟩ ?_ ?_
  · rintro i x s hi ⟨left, text, es, M', e4, e5, e6, e7, rfl, hleft, htext, hlast, hlen, hfl, hk⟩
    obtain ⟨hi, rfl⟩ := rng_get hi
    walk_at "w"
    refine fo_use (next_ok hk.dr (z := 3) (by decide) (by decide)) ?_
    rintro _ M4 ⟨a, rfl, a0, a1, hk2⟩
    replace hk := hk.trans hk2
    walk_at "w"
    refine w_ixI (ns := [1, 3, 8]) rfl rfl rfl a0 (by show a < 3; omega) ?_
    have hst := en_step ⟨a0, a1⟩
    generalize ([1, 3, 8] : List Int).getD a.toNat 0 = st at *
    walk_at "w"
    refine fo_use (next_ok hk.dr (z := st) (by omega) (by omega)) ?_
    rintro _ M5 ⟨b, rfl, b0, b1, hk2⟩
    replace hk := hk.trans hk2
    walk_at "w"
    have ht2 : text < text + 1 + b := by omega
    generalize text + 1 + b = text2 at *
    refine fo_use (l_name_ok hk.dr) ?_
    rintro _ M6 ⟨n, rfl, hnl, hnb, hk2⟩
    replace hk := hk.trans hk2
    walk_at "w"
    refine fo_use (l_places_ok hk.dr hleft) ?_
    rintro _ M7 ⟨ps, rfl, hpl, hpb, hk2⟩
    replace hk := hk.trans hk2
    walk_at "w"
    rw [List.length_map]
    refine fo_use (next_ok hk.dr (z := 255 * (ps.length : Int) + 1) (by omega) (by omega)) ?_
    rintro _ M8 ⟨c, rfl, c0, c1, hk2⟩
    replace hk := hk.trans hk2
    walk_at "w"
    rw [List.length_map]
    refine fo_use (next_ok hk.dr (z := 8) (by decide) (by decide)) ?_
    rintro _ M9 ⟨d, rfl, d0, d1, hk2⟩
    replace hk := hk.trans hk2
    clear hk2
    walk_at "w"
    refine w_ixI (ns := [c, 0, 255 * (ps.length : Int)]) rfl rfl rfl (by omega) (by show max 0 (d - 5) < 3; omega) ?_
    have hln := en_len ⟨c0, c1⟩ (z := max 0 (d - 5)) (by omega)
    generalize ([c, 0, 255 * (ps.length : Int)] : List Int).getD (max 0 (d - 5)).toNat 0 = ln at *
    walk_at "w"
    by_cases h255 : text2 < 255
    · rw [decide_eq_true h255]
      walk_at "w"
      refine w_lcMap (fun d => match d with | .tup [_, .str x, _, _] => .str x | d => d) (by rw [List.length_map]; show _ ≤ 16777216; omega) ?_ ?_
      · intro y hy
        obtain ⟨e, he, rfl⟩ := List.mem_map.mp hy
        unfold dEn
        walk_at "w"
        refine w_ixT (d := .str (nmS e.name)) rfl rfl rfl rfl rfl ?_
        walk_at "w"
        exact ⟨rfl, rfl⟩
      rw [List.map_map, show ((fun d => match d with | D.tup [_, .str x, _, _] => D.str x | d => d) ∘ dEn) = D.str ∘ (fun e : En => nmS e.name) from rfl, ← List.map_map]
      walk_at "ds"
      have hok := flw_ok hfl
      refine w_ninStr (nm_ok hnb) (fun y hy => ?_) ?_
      · obtain ⟨f, hf, rfl⟩ := List.mem_map.mp hy
        exact nm_ok (hok f hf).nb
      have hmem : decide (nmS n ∈ es.map fun e => nmS e.name) = decide (n ∈ es.map En.name) := by
        refine decide_eq_decide.mpr ⟨fun h => ?_, fun h => ?_⟩
        · obtain ⟨f, hf, h1⟩ := List.mem_map.mp h
          exact List.mem_map.mpr ⟨f, hf, nmS_inj (hok f hf).nb hnb h1⟩
        · obtain ⟨f, hf, h1⟩ := List.mem_map.mp h
          exact List.mem_map.mpr ⟨f, hf, by rw [h1]⟩
      rw [hmem]
      walk_at "w"
      by_cases hin : n ∈ es.map En.name
      · rw [decide_eq_true hin]
        walk_at "w"
        exact ⟨left, text2, es, M9, _, _, _, _, rfl, hleft, by omega, (fun l hl => by have := hlast l hl; omega), by omega, hfl, hk⟩
      · rw [decide_eq_false hin]
        walk_at "w"
        refine w_app rfl (by rw [List.length_map]; show _ < 16777216; omega) ?_
        walk_at "w"
        rw [List.length_map]
        walk_at "w"
        have hmay : mayF ⟨text2, n, ln, ps⟩ es = true := by
          unfold mayF
          rw [decide_eq_false hin]
          cases hl : es.getLast? with
          | none => rfl
          | some l =>
            have := hlast l hl
            show (decide (l.text < text2) && !false) = true
            rw [decide_eq_true (by omega)]; rfl
        refine ⟨_, text2, es ++ [⟨text2, n, ln, ps⟩], M9, _, _, _, _, by rw [List.map_append]; rfl, by omega, by omega, ?_, by rw [List.length_append]; show es.length + 1 ≤ i + 1; omega, flw_snoc hfl ⟨by show 0 ≤ text2 ∧ text2 ≤ 254; omega, hnl, hnb, hpl, hpb, hln⟩ hmay, hk⟩
        intro l hl
        rw [List.getLast?_concat] at hl
        cases hl
        exact Int.le_refl _
    · rw [decide_eq_false h255]
      walk_at "w"
      exact ⟨left, text2, es, M9, _, _, _, _, rfl, hleft, by omega, (fun l hl => by have := hlast l hl; omega), by omega, hfl, hk⟩
  · rintro s ⟨left, text, es, M', e4, e5, e6, e7, rfl, hleft, htext, hlast, hlen, hfl, hk⟩
    rw [rng_len] at hlen
    walk_at "w"
    exact ⟨es, rfl, by omega, hfl, hk⟩

/-! ### rows of entries, spoilt -/
/-- a thing in the list of rows: bytes, in a cell of their own or not -/
def RowD (r : Nat) (M : List Cn) (d : D) : Prop := ∃ ns : List Int, (d = .lst (ns.map D.int) ∨ ∃ c, d = .cid c ∧ c ≠ r ∧ M[c]? = some (.lst (ns.map D.int))) ∧ (∀ b ∈ ns, 0 ≤ b ∧ b ≤ 255) ∧ ns.length ≤ 900
structure Sp (M : List Cn) (k r : Nat) : Prop where
  dr : Drw M k
  rk : r ≠ k
  rs : ∃ ds, M[r]? = some (.lst ds) ∧ ds.length ≤ 40 ∧ ∀ d ∈ ds, RowD r M d ∧ d ≠ .cid k
structure Sp0 (M : List Cn) (k r : Nat) (es : List En) (cs : List Nat) : Prop where
  dr : Drw M k
  rk : r ≠ k
  rs : M[r]? = some (.lst (cs.map D.cid))
  ln : cs.length = es.length
  at_ : ∀ (i c : Nat) (e : En), cs[i]? = some c → es[i]? = some e → c ≠ k ∧ c ≠ r ∧ M[c]? = some (.lst ((enB e).map D.int))
theorem Sp0.kpt {M M' : List Cn} {k r : Nat} {es : List En} {cs : List Nat} (h : Sp0 M k r es cs) (hk : Kpt M M' k) : Sp0 M' k r es cs :=
  ⟨hk.dr, h.rk, by rw [hk.oth r h.rk]; exact h.rs, h.ln, fun i c e h1 h2 => by
    obtain ⟨a, b, d⟩ := h.at_ i c e h1 h2
    exact ⟨a, b, by rw [hk.oth c a]; exact d⟩⟩
theorem Sp.kpt {M M' : List Cn} {k r : Nat} (h : Sp M k r) (hk : Kpt M M' k) : Sp M' k r := by
  obtain ⟨ds, h1, h2, h3⟩ := h.rs
  refine ⟨hk.dr, h.rk, ds, by rw [hk.oth r h.rk]; exact h1, h2, fun d hd => ?_⟩
  obtain ⟨⟨ns, g1, g2, g3⟩, hne⟩ := h3 d hd
  refine ⟨⟨ns, ?_, g2, g3⟩, hne⟩
  rcases g1 with g1 | ⟨c, rfl, gr, g1⟩
  · exact .inl g1
  · exact .inr ⟨c, rfl, gr, by rw [hk.oth c (fun z => hne (by rw [z]))]; exact g1⟩
theorem enB_len900 {e : En} (h : EnOk e) : (enB e).length ≤ 800 := by
  have := enB_len e
  have := h.n0
  have := h.p0
  omega
theorem Sp0.row {M : List Cn} {k r : Nat} {es : List En} {cs : List Nat} (h : Sp0 M k r es cs) (hok : ∀ e ∈ es, EnOk e) {d : D} (hd : d ∈ cs.map D.cid) : RowD r M d ∧ d ≠ .cid k := by
  obtain ⟨c, hc, rfl⟩ := List.mem_map.mp hd
  obtain ⟨i, hi⟩ := List.mem_iff_getElem?.mp hc
  have hil : i < cs.length := (List.getElem?_eq_some_iff.mp hi).1
  have hie : i < es.length := by have := h.ln; omega
  have he : es[i]? = some es[i] := List.getElem?_eq_getElem hie
  generalize es[i] = e at he
  obtain ⟨a, b, g⟩ := h.at_ i c _ hi he
  have ho := hok _ (List.mem_of_getElem? he)
  exact ⟨⟨enB e, .inr ⟨c, rfl, b, g⟩, enW_bd ho.w, by have := enB_len900 ho; omega⟩, fun z => a (by injection z)⟩
/-- nothing was changed -/
theorem Sp0.sp {M : List Cn} {k r : Nat} {es : List En} {cs : List Nat} (h : Sp0 M k r es cs) (hok : ∀ e ∈ es, EnOk e) (hl : es.length ≤ 35) : Sp M k r :=
  ⟨h.dr, h.rk, _, h.rs, by rw [List.length_map, h.ln]; omega, fun d hd => h.row hok hd⟩
/-- one row's cell was changed -/
theorem Sp0.cell {M : List Cn} {k r : Nat} {es : List En} {cs : List Nat} (h : Sp0 M k r es cs) (hok : ∀ e ∈ es, EnOk e) (hl : es.length ≤ 30) {c : Nat} (hck : c ≠ k) (hcr : c ≠ r) (hcl : c < M.length) {ns : List Int} (hns : ∀ b ∈ ns, 0 ≤ b ∧ b ≤ 255) (hnl : ns.length ≤ 900) : Sp (M.set c (.lst (ns.map D.int))) k r := by
  obtain ⟨x, y, hd⟩ := h.dr.at_
  refine ⟨⟨x, y, by rw [List.getElem?_set_ne hck]; exact hd⟩, h.rk, _, by rw [List.getElem?_set_ne hcr]; exact h.rs, by rw [List.length_map, h.ln]; omega, fun d hm => ?_⟩
  obtain ⟨⟨ms, g1, g2, g3⟩, hne⟩ := h.row hok hm
  refine ⟨?_, hne⟩
  rcases g1 with g1 | ⟨c', rfl, gr, g1⟩
  · exact ⟨ms, .inl g1, g2, g3⟩
  · by_cases hcc : c' = c
    · subst hcc
      exact ⟨ns, .inr ⟨c', rfl, gr, List.getElem?_set_self hcl⟩, hns, hnl⟩
    · exact ⟨ms, .inr ⟨c', rfl, gr, by rw [List.getElem?_set_ne (fun z => hcc z.symm)]; exact g1⟩, g2, g3⟩
/-- the list of rows was changed -/
theorem Sp0.rows {M : List Cn} {k r : Nat} {es : List En} {cs : List Nat} (h : Sp0 M k r es cs) {ds : List D} (hl : ds.length ≤ 40) (hd : ∀ d ∈ ds, RowD r M d ∧ d ≠ .cid k) : Sp (M.set r (.lst ds)) k r := by
  obtain ⟨x, y, hdr⟩ := h.dr.at_
  refine ⟨⟨x, y, by rw [List.getElem?_set_ne h.rk]; exact hdr⟩, h.rk, ds, List.getElem?_set_self (List.getElem?_eq_some_iff.mp h.rs).1, hl, fun d hm => ?_⟩
  obtain ⟨⟨ms, g1, g2, g3⟩, hne⟩ := hd d hm
  refine ⟨⟨ms, ?_, g2, g3⟩, hne⟩
  rcases g1 with g1 | ⟨c', rfl, gr, g1⟩
  · exact .inl g1
  · exact .inr ⟨c', rfl, gr, by rw [List.getElem?_set_ne gr.symm]; exact g1⟩
theorem at_en {es : List En} {a : Nat} {e : En} (h : es[a]? = some e) : atI (es.map dEn) (a : Int) = some (dEn e) := by
  rw [atI_map, atI_nn (by omega), Int.toNat_natCast, h]; rfl
theorem at_cid {cs : List Nat} {a c : Nat} (h : cs[a]? = some c) : atI (cs.map D.cid) (a : Int) = some (.cid c) := by
  rw [atI_map, atI_nn (by omega), Int.toNat_natCast, h]; rfl
theorem mem_set' {β : Type} {l : List β} {i : Nat} {x y : β} (h : y ∈ l.set i x) : y ∈ l ∨ y = x := List.mem_or_eq_of_mem_set h
theorem rowD_lst {r k : Nat} {M : List Cn} {ns : List Int} (h : ∀ b ∈ ns, 0 ≤ b ∧ b ≤ 255) (hl : ns.length ≤ 900) : RowD r M (.lst (ns.map D.int)) ∧ (.lst (ns.map D.int)) ≠ D.cid k := ⟨⟨ns, .inl rfl, h, hl⟩, fun z => by cases z⟩
theorem enB_w {e : En} (h : EnW e) : (enB e).length ≤ 800 := by
  have := enB_len e
  have := h.n0
  have := h.p0
  omega
theorem set_bd {ns : List Int} (h : ∀ b ∈ ns, 0 ≤ b ∧ b ≤ 255) {i : Nat} {v : Int} (hv : 0 ≤ v ∧ v ≤ 255) : ∀ b ∈ ns.set i v, 0 ≤ b ∧ b ≤ 255 := fun b hb => by
  rcases List.mem_or_eq_of_mem_set hb with hb | hb
  · exact h b hb
  · rw [hb]; exact hv
theorem get4 {x y : Int} (hx : 0 ≤ x ∧ x ≤ 255) (hy : 0 ≤ y ∧ y < 4) : 0 ≤ ([0, 13, 255, x] : List Int).getD y.toNat 0 ∧ ([0, 13, 255, x] : List Int).getD y.toNat 0 ≤ 255 := by
  rcases (show y = 0 ∨ y = 1 ∨ y = 2 ∨ y = 3 by omega) with e | e | e | e <;> subst e
  · show (0 : Int) ≤ 0 ∧ (0 : Int) ≤ 255; decide
  · show (0 : Int) ≤ 13 ∧ (13 : Int) ≤ 255; decide
  · show (0 : Int) ≤ 255 ∧ (255 : Int) ≤ 255; decide
  · exact hx
theorem get9 {y : Int} (hy : 0 ≤ y ∧ y < 9) : 0 ≤ ([44, 47, 58, 65, 96, 123, 32, 0, 173] : List Int).getD y.toNat 0 ∧ ([44, 47, 58, 65, 96, 123, 32, 0, 173] : List Int).getD y.toNat 0 ≤ 255 := by
  rcases (show y = 0 ∨ y = 1 ∨ y = 2 ∨ y = 3 ∨ y = 4 ∨ y = 5 ∨ y = 6 ∨ y = 7 ∨ y = 8 by omega) with e | e | e | e | e | e | e | e | e <;> subst e <;> decide
theorem tw_nm : ∀ b ∈ [45, 46, 45, 46, 45], b ∈ NB := by decide
theorem tw_tx : Str.ofString "-.-.-" = nmS [45, 46, 45, 46, 45] := by decide +kernel
theorem spoilt_rows_ok {M : List Cn} {k r : Nat} {es : List En} {cs : List Nat} (h : Sp0 M k r es cs) (hok : ∀ e ∈ es, EnOk e) (hl : 1 ≤ es.length ∧ es.length ≤ 30) : Fo (fun a M' => (∃ w : Int, a = .val (.int w)) ∧ Sp M' k r) (m_l_spoilt_rows [.cid k, .lst (es.map dEn), .cid r] M) := by
  have hln := h.ln
  walk_at "f0"; unfold b_l_spoilt_rows
  walk_at "w"
  refine fo_use (next_ok h.dr (z := 12) (by decide) (by decide)) ?_
  rintro _ M1 ⟨w, rfl, w0, w1, hk1⟩
  have h1 := h.kpt hk1
  have hr := h1.rs
  walk_at "w"
  rw [List.length_map]
  refine fo_use (next_ok h1.dr (z := (cs.length : Int)) (by omega) (by omega)) ?_
  rintro _ M2 ⟨x, rfl, x0, x1, hk2⟩
  have h2 := h1.kpt hk2
  clear h h1 hk1 hk2 hr
  have hr := h2.rs
  obtain ⟨a, rfl⟩ : ∃ a : Nat, x = (a : Int) := ⟨x.toNat, by omega⟩
  have hc : cs[a]? = some cs[a] := List.getElem?_eq_getElem (by omega)
  have he : es[a]? = some es[a] := List.getElem?_eq_getElem (by omega)
  generalize cs[a] = c at hc
  generalize es[a] = e at he
  obtain ⟨hck, hcr, hcM⟩ := h2.at_ a c e hc he
  have hoe := hok e (List.mem_of_getElem? he)
  have heb := enW_bd hoe.w
  have hel := enB_w hoe.w
  have hen := enB_len e
  have hn0 := hoe.n0
  have hcl := (List.getElem?_eq_some_iff.mp hcM).1
  have hdl : (cs.map D.cid).length = cs.length := List.length_map ..
  have hdone := h2.sp hok (by omega)
  rcases (show w = 0 ∨ w = 1 ∨ w = 2 ∨ w = 3 ∨ w = 4 ∨ w = 5 ∨ w = 6 ∨ w = 7 ∨ 8 ≤ w by omega) with rfl | rfl | rfl | rfl | rfl | rfl | rfl | rfl | hw
  · -- two entries exchanged
    walk_at "w"
    rw [List.length_map]
    refine z_if (fun hlt => ?_) (fun hlt => ?_)
    · walk_at "wi"
      rw [List.length_map]
      refine fo_use (next_ok h2.dr (z := (cs.length : Int) - 1) (by omega) (by omega)) ?_
      rintro _ M3 ⟨x, rfl, y0, y1, hk3⟩
      have h3 := h2.kpt hk3
      have hr3 := h3.rs
      obtain ⟨b, rfl⟩ : ∃ b : Nat, x = (b : Int) := ⟨x.toNat, by omega⟩
      have hc1 : cs[b + 1]? = some cs[b + 1] := List.getElem?_eq_getElem (by omega)
      have he1 : es[b]? = some es[b] := List.getElem?_eq_getElem (by omega)
      generalize cs[b + 1] = c1 at hc1
      generalize es[b] = e1 at he1
      have hoe1 := hok e1 (List.mem_of_getElem? he1)
      walk_at "wi"
      rw [show (b : Int) + 1 = ((b + 1 : Nat) : Int) by omega]
      refine w_ixL (d := .cid c1) rfl (viewD_cid hr3) (viewL_cid hr3) (at_cid hc1) ?_
      walk_at "wi"
      refine so_setLst (getC_cid hr3) (j := b) (ixN_nn (by omega) (by rw [List.length_map]; omega)) ?_
      walk_at "ds"
      walk_at "wi"
      refine w_ixL (d := dEn e1) rfl rfl rfl (at_en he1) ?_
      walk_at "wi"
      refine fo_eq (l_entry_ok hoe1.w _) ?_
      walk_at "wi"
      rw [show (b : Int) + 1 = ((b + 1 : Nat) : Int) by omega]
      refine so_setLst (l := (cs.map D.cid).set b (.cid c1)) (getC_cid (List.getElem?_set_self (List.getElem?_eq_some_iff.mp hr3).1)) (j := b + 1) (ixN_nn (by omega) (by rw [List.length_set, List.length_map]; omega)) ?_
      walk_at "ds"
      walk_at "w"
      refine ⟨⟨_, rfl⟩, ?_⟩
      show Sp ((M3.set r _).set r _) k r
      rw [List.set_set]
      refine h3.rows (by rw [List.length_set, List.length_set, List.length_map]; omega) fun d hd => ?_
      rcases mem_set' hd with hd | rfl
      · rcases mem_set' hd with hd | rfl
        · exact h3.row hok hd
        · exact h3.row hok (List.mem_map.mpr ⟨c1, List.mem_of_getElem? hc1, rfl⟩)
      · exact rowD_lst (enW_bd hoe1.w) (by have := enB_w hoe1.w; omega)
    · walk_at "w"
      exact ⟨⟨_, rfl⟩, hdone⟩
  · -- one told twice
    walk_at "w"
    refine w_ixL (d := dEn e) rfl rfl rfl (at_en he) ?_
    walk_at "w"
    refine w_ixT (d := .int e.text) rfl rfl rfl rfl rfl ?_
    walk_at "w"
    refine w_ixL (d := dEn e) rfl rfl rfl (at_en he) ?_
    walk_at "w"
    refine w_ixT (d := .int e.len) rfl rfl rfl rfl rfl ?_
    walk_at "w"
    refine w_ixL (d := dEn e) rfl rfl rfl (at_en he) ?_
    walk_at "w"
    refine w_ixT (d := .lst (e.places.map D.int)) rfl rfl rfl rfl rfl ?_
    walk_at "w"
    have hw2 : EnW ⟨e.text, [45, 46, 45, 46, 45], e.len, e.places⟩ := ⟨hoe.w.t0, ⟨by show 1 ≤ 5; decide, by show 5 ≤ 12; decide⟩, tw_nm, hoe.w.p0, hoe.w.pb, hoe.w.l0⟩
    rw [tw_tx]
    refine fo_eq (l_entry_ok hw2 _) ?_
    walk_at "w"
    refine w_ixL (d := .cid c) rfl (viewD_cid hr) (viewL_cid hr) (at_cid hc) ?_
    walk_at "w"
    refine w_list (viewL_cid hcM) ?_
    walk_at "w"
    refine fo_use (next_ok h2.dr (z := 2) (by decide) (by decide)) ?_
    rintro _ M3 ⟨x, rfl, y0, y1, hk3⟩
    have h3 := h2.kpt hk3
    have hr3 := h3.rs
    obtain ⟨ns, hns, hnb, hnl⟩ : ∃ ns : List Int, atI [D.lst ((enB ⟨e.text, [45, 46, 45, 46, 45], e.len, e.places⟩).map D.int), .lst ((enB e).map D.int)] x = some (.lst (ns.map D.int)) ∧ (∀ b ∈ ns, 0 ≤ b ∧ b ≤ 255) ∧ ns.length ≤ 900 := by
      rcases (show x = 0 ∨ x = 1 by omega) with rfl | rfl
      · exact ⟨_, rfl, enW_bd hw2, by have := enB_w hw2; omega⟩
      · exact ⟨_, rfl, heb, by omega⟩
    refine w_ixL (d := .lst (ns.map D.int)) rfl rfl rfl hns ?_
    walk_at "w"
    rw [show (a : Int) + 1 = ((a + 1 : Nat) : Int) by omega]
    refine w_ins (getC_cid hr3) ⟨by rw [List.length_map]; show _ < 16777216; omega, by omega, by omega⟩ ?_
    walk_at "ds"
    walk_at "w"
    refine ⟨⟨_, rfl⟩, ?_⟩
    show Sp (M3.set r _) k r
    refine h3.rows (by rw [List.length_append, List.length_append, List.length_take, List.length_drop, List.length_map]; show _ + 1 + _ ≤ 40; omega) fun d hd => ?_
    rcases List.mem_append.mp hd with hd | hd
    · rcases List.mem_append.mp hd with hd | hd
      · exact h3.row hok (List.mem_of_mem_take hd)
      · rw [List.mem_singleton.mp hd]; exact rowD_lst hnb hnl
    · exact h3.row hok (List.mem_of_mem_drop hd)
  · walk_at "w"
    refine w_ixL (d := .cid c) rfl (viewD_cid hr) (viewL_cid hr) (at_cid hc) ?_
    walk_at "w"
    refine so_setI (getC_cid hcM) (by decide) (by omega) ?_
    walk_at "ds"
    walk_at "w"
    exact ⟨⟨_, rfl⟩, h2.cell hok hl.2 hck hcr hcl (set_bd heb (by decide)) (by rw [List.length_set]; omega)⟩
  · walk_at "w"
    refine w_ixL (d := .cid c) rfl (viewD_cid hr) (viewL_cid hr) (at_cid hc) ?_
    walk_at "w"
    refine w_ixI rfl (viewD_cid hcM) (viewL_cid hcM) (by decide) (by omega) ?_
    walk_at "w"
    refine fo_use (next_ok h2.dr (z := 4) (by decide) (by decide)) ?_
    rintro _ M3 ⟨x, rfl, y0, y1, hk3⟩
    have h3 := h2.kpt hk3
    have hr3 := h3.rs
    have hcM3 := (h3.at_ a c e hc he).2.2
    have hn1 : (enB e).getD (1 : Int).toNat 0 = (e.name.length : Int) := rfl
    rw [hn1]
    refine w_ixI (ns := [0, 13, 255, (e.name.length : Int) + 1]) rfl rfl rfl y0 (by show x < 4; omega) ?_
    have hv := get4 (x := (e.name.length : Int) + 1) (y := x) (by omega) ⟨y0, y1⟩
    generalize ([0, 13, 255, (e.name.length : Int) + 1] : List Int).getD x.toNat 0 = v at *
    walk_at "w"
    refine w_ixL (d := .cid c) rfl (viewD_cid hr3) (viewL_cid hr3) (at_cid hc) ?_
    walk_at "w"
    refine so_setI (getC_cid hcM3) (by decide) (by omega) ?_
    walk_at "ds"
    walk_at "w"
    exact ⟨⟨_, rfl⟩, h3.cell hok hl.2 hck hcr (List.getElem?_eq_some_iff.mp hcM3).1 (set_bd heb hv) (by rw [List.length_set]; omega)⟩
  · walk_at "w"
    refine w_ixL (d := .cid c) rfl (viewD_cid hr) (viewL_cid hr) (at_cid hc) ?_
    walk_at "w"
    refine w_ixI rfl (viewD_cid hcM) (viewL_cid hcM) (by decide) (by omega) ?_
    have hn1 : (enB e).getD (1 : Int).toNat 0 = (e.name.length : Int) := rfl
    rw [hn1]
    walk_at "w"
    refine fo_use (next_ok h2.dr (z := (e.name.length : Int)) (by omega) (by omega)) ?_
    rintro _ M3 ⟨x, rfl, y0, y1, hk3⟩
    have h3 := h2.kpt hk3
    walk_at "w"
    refine fo_use (next_ok h3.dr (z := 9) (by decide) (by decide)) ?_
    rintro _ M4 ⟨y, rfl, z0, z1, hk4⟩
    have h4 := h3.kpt hk4
    have hr4 := h4.rs
    have hcM4 := (h4.at_ a c e hc he).2.2
    refine w_ixI (ns := [44, 47, 58, 65, 96, 123, 32, 0, 173]) rfl rfl rfl z0 (by show y < 9; omega) ?_
    have hv := get9 ⟨z0, z1⟩
    generalize ([44, 47, 58, 65, 96, 123, 32, 0, 173] : List Int).getD y.toNat 0 = v at *
    walk_at "w"
    refine w_ixL (d := .cid c) rfl (viewD_cid hr4) (viewL_cid hr4) (at_cid hc) ?_
    walk_at "w"
    refine so_setI (getC_cid hcM4) (by omega) (by omega) ?_
    walk_at "ds"
    walk_at "w"
    exact ⟨⟨_, rfl⟩, h4.cell hok hl.2 hck hcr (List.getElem?_eq_some_iff.mp hcM4).1 (set_bd heb hv) (by rw [List.length_set]; omega)⟩
  · walk_at "w"
    refine z_if (fun ha0 => ?_) (fun ha0 => ?_)
    · walk_at "wi"
      refine w_ixL (d := dEn e) rfl rfl rfl (at_en he) ?_
      walk_at "wi"
      refine w_ixT (d := .int e.text) rfl rfl rfl rfl rfl ?_
      walk_at "wi"
      refine fo_use (next_ok h2.dr (z := (a : Int)) (by omega) (by omega)) ?_
      rintro _ M3 ⟨x, rfl, y0, y1, hk3⟩
      have h3 := h2.kpt hk3
      have hr3 := h3.rs
      obtain ⟨b, rfl⟩ : ∃ b : Nat, x = (b : Int) := ⟨x.toNat, by omega⟩
      have he1 : es[b]? = some es[b] := List.getElem?_eq_getElem (by omega)
      generalize es[b] = e1 at he1
      have hoe1 := hok e1 (List.mem_of_getElem? he1)
      refine w_ixL (d := dEn e1) rfl rfl rfl (at_en he1) ?_
      walk_at "wi"
      refine w_ixT (d := .str (nmS e1.name)) rfl rfl rfl rfl rfl ?_
      walk_at "wi"
      refine w_ixL (d := dEn e) rfl rfl rfl (at_en he) ?_
      walk_at "wi"
      refine w_ixT (d := .int e.len) rfl rfl rfl rfl rfl ?_
      walk_at "wi"
      refine w_ixL (d := dEn e) rfl rfl rfl (at_en he) ?_
      walk_at "wi"
      refine w_ixT (d := .lst (e.places.map D.int)) rfl rfl rfl rfl rfl ?_
      walk_at "wi"
      have hw2 : EnW ⟨e.text, e1.name, e.len, e.places⟩ := ⟨hoe.w.t0, hoe1.n0, hoe1.nb, hoe.w.p0, hoe.w.pb, hoe.w.l0⟩
      refine fo_eq (l_entry_ok hw2 _) ?_
      walk_at "wi"
      refine so_setLst (getC_cid hr3) (j := a) (ixN_nn (by omega) (by rw [List.length_map]; omega)) ?_
      walk_at "ds"
      walk_at "w"
      refine ⟨⟨_, rfl⟩, ?_⟩
      show Sp (M3.set r _) k r
      refine h3.rows (by rw [List.length_set, List.length_map]; omega) fun d hd => ?_
      rcases mem_set' hd with hd | rfl
      · exact h3.row hok hd
      · exact rowD_lst (enW_bd hw2) (by have := enB_w hw2; omega)
    · walk_at "w"
      exact ⟨⟨_, rfl⟩, hdone⟩
  · walk_at "w"
    refine w_ixL (d := dEn e) rfl rfl rfl (at_en he) ?_
    walk_at "w"
    refine w_ixT (d := .int e.text) rfl rfl rfl rfl rfl ?_
    walk_at "w"
    refine w_ixL (d := dEn e) rfl rfl rfl (at_en he) ?_
    walk_at "w"
    refine w_ixT (d := .str (nmS e.name)) rfl rfl rfl rfl rfl ?_
    walk_at "w"
    have hw2 : EnW ⟨e.text, e.name, 0, []⟩ := ⟨hoe.w.t0, hoe.n0, hoe.nb, by show 0 ≤ 255; decide, (fun p hp => by cases hp), by show (0 : Int) ≤ 0 ∧ (0 : Int) < 65536; decide⟩
    refine fo_eq (l_entry_ok hw2 _) ?_
    walk_at "w"
    refine so_setLst (getC_cid hr) (j := a) (ixN_nn (by omega) (by rw [List.length_map]; omega)) ?_
    walk_at "ds"
    walk_at "w"
    refine ⟨⟨_, rfl⟩, ?_⟩
    show Sp (M2.set r _) k r
    refine h2.rows (by rw [List.length_set, List.length_map]; omega) fun d hd => ?_
    rcases mem_set' hd with hd | rfl
    · exact h2.row hok hd
    · exact rowD_lst (enW_bd hw2) (by have := enB_w hw2; omega)
  · walk_at "w"
    refine w_ixL (d := dEn e) rfl rfl rfl (at_en he) ?_
    walk_at "w"
    refine w_ixT (d := .lst (e.places.map D.int)) rfl rfl rfl rfl rfl ?_
    walk_at "w"
    refine w_ixL (d := dEn e) rfl rfl rfl (at_en he) ?_
    walk_at "w"
    refine w_ixT (d := .int e.text) rfl rfl rfl rfl rfl ?_
    walk_at "w"
    refine w_ixL (d := dEn e) rfl rfl rfl (at_en he) ?_
    walk_at "w"
    refine w_ixT (d := .str (nmS e.name)) rfl rfl rfl rfl rfl ?_
    walk_at "w"
    rw [List.length_map]
    walk_at "w"
    have hp0 := hoe.p0
    have hw2 : EnW ⟨e.text, e.name, 255 * (e.places.length : Int) + 1, e.places⟩ := ⟨hoe.w.t0, hoe.n0, hoe.nb, hoe.w.p0, hoe.w.pb, ⟨by show 0 ≤ 255 * (e.places.length : Int) + 1; omega, by show 255 * (e.places.length : Int) + 1 < 65536; omega⟩⟩
    refine fo_eq (l_entry_ok hw2 _) ?_
    walk_at "w"
    refine so_setLst (getC_cid hr) (j := a) (ixN_nn (by omega) (by rw [List.length_map]; omega)) ?_
    walk_at "ds"
    walk_at "w"
    refine ⟨⟨_, rfl⟩, ?_⟩
    show Sp (M2.set r _) k r
    refine h2.rows (by rw [List.length_set, List.length_map]; omega) fun d hd => ?_
    rcases mem_set' hd with hd | rfl
    · exact h2.row hok hd
    · exact rowD_lst (enW_bd hw2) (by have := enB_w hw2; omega)
  · walk_at "w"
    exact ⟨⟨_, rfl⟩, hdone⟩

/-! ### spoilt books -/
def dgN (k : Nat) : List Nat := if k < 10 then [48 + k] else [48 + k / 10, 48 + k % 10]
def nmN (k : Nat) : List Int := (110 :: dgN k).map fun c : Nat => (c : Int)
theorem dgN_ok : ∀ k : Nat, k < 33 → (toString (k : Int) : Str) = tx (dgN k) := by decide +kernel
theorem nmN_ok : ∀ k : Nat, k < 33 → (∀ b ∈ nmN k, b ∈ NB) ∧ 1 ≤ (nmN k).length ∧ (nmN k).length ≤ 12 := by decide +kernel
theorem nmN_tx (k : Nat) : tx (110 :: dgN k) = nmS (nmN k) := by
  unfold nmS nmN
  rw [List.map_map]
  congr 1
  refine (List.map_id' _).symm.trans (List.map_congr_left fun c _ => ?_)
  exact (Int.toNat_natCast c).symm
theorem drw_app {M : List Cn} {k : Nat} (h : Drw M k) (X : List Cn) : Drw (M ++ X) k := by
  obtain ⟨a, b, e⟩ := h.at_
  exact ⟨a, b, by rw [List.getElem?_append_left (List.getElem?_eq_some_iff.mp e).1]; exact e⟩
theorem rng_cid (n b : Nat) : (List.range n).map (fun j => D.cid (b + j)) = ((List.range n).map (fun j => b + j)).map D.cid := by rw [List.map_map]; rfl
/-- rows just written, each in a cell of its own -/
theorem sp0_new {M : List Cn} {k : Nat} (h : Drw M k) (es : List En) : Sp0 (M ++ es.map (fun e => Cn.lst ((enB e).map D.int)) ++ [.lst (((List.range es.length).map (fun j => M.length + j)).map D.cid)]) k (M ++ es.map (fun e => Cn.lst ((enB e).map D.int))).length es ((List.range es.length).map (fun j => M.length + j)) := by
  have hk : k < M.length := by
    obtain ⟨a, b, e⟩ := h.at_
    exact (List.getElem?_eq_some_iff.mp e).1
  have hl : (M ++ es.map (fun e => Cn.lst ((enB e).map D.int))).length = M.length + es.length := by rw [List.length_append, List.length_map]
  refine ⟨drw_app (drw_app h _) _, by omega, app_at _ _ _, by rw [List.length_map, List.length_range], fun i c e h1 h2 => ?_⟩
  have hi : i < es.length := (List.getElem?_eq_some_iff.mp h2).1
  rw [List.getElem?_map, List.getElem?_range hi] at h1
  have h1 : M.length + i = c := by simpa using h1
  subst h1
  refine ⟨by omega, by omega, ?_⟩
  rw [List.getElem?_append_left (by omega), List.getElem?_append_right (by omega), show M.length + i - M.length = i by omega, List.getElem?_map, h2]; rfl
theorem w_lenL {ds : List D} {es : List En} : (es.map dEn).length = es.length := List.length_map ..
theorem l_spoilt_ok {M : List Cn} {k : Nat} (h : Drw M k) {es : List En} (hok : ∀ e ∈ es, EnOk e) (hel : es.length ≤ 30) : Fo (fun a M' => ∃ ns : List Int, a = .new (.lst (ns.map D.int)) ∧ (∀ b ∈ ns, 0 ≤ b ∧ b ≤ 255) ∧ ns.length ≤ 37000 ∧ Drw M' k) (m_l_spoilt [.cid k, .lst (es.map dEn)] M) := by
  walk_at "f0"; unfold b_l_spoilt
  walk_at "wi"
  refine w_lcInv (fun i acc s => s = ⟨[some (.fz (.cid k)), some (.fz (.lst (es.map dEn))), none, none, none, none, none, none], M ++ (es.take i).map (fun e => Cn.lst ((enB e).map D.int))⟩ ∧ acc = (List.range i).map (fun j => D.cid (M.length + j))) ⟨by rw [List.take_zero, List.map_nil, List.append_nil]; rfl, rfl⟩ (by rw [List.length_map]; show _ ≤ 16777216; omega) ?_ ?_
  · rintro i x acc s hi ⟨rfl, rfl⟩
    obtain ⟨e, he, rfl⟩ := map_get hi
    have hil : i < es.length := (List.getElem?_eq_some_iff.mp he).1
    walk_at "w"
    refine fo_eq (l_entry_ok (hok e (List.mem_of_getElem? he)).w _) ?_
    walk_at "w"
    refine ⟨?_, ?_⟩
    · show Stt.mk _ _ = _
      rw [List.take_add_one, he, List.map_append, ← List.append_assoc]; rfl
    · rw [List.range_succ, List.map_append, List.length_append, List.length_map, List.length_take, Nat.min_eq_left (by omega)]; rfl
  rintro _ _ ⟨rfl, rfl⟩
  rw [List.length_map, List.take_length, rng_cid]
  have hsp := sp0_new h es
  walk_at "ds"
  refine ⟨_, rfl, ?_⟩
  generalize M ++ es.map (fun e => Cn.lst ((enB e).map D.int)) ++ [.lst (((List.range es.length).map (fun j => M.length + j)).map D.cid)] = M1 at *
  generalize (M ++ es.map (fun e => Cn.lst ((enB e).map D.int))).length = r at *
  generalize (List.range es.length).map (fun j => M.length + j) = cs at *
  clear h
  walk_at "wi"
  refine fo_use (next_ok hsp.dr (z := 7) (by decide) (by decide)) ?_
  rintro _ M2 ⟨w, rfl, w0, w1, hk2⟩
  replace hsp := hsp.kpt hk2
  clear hk2
  walk_at "wi"
  refine w_join (fun s => ∃ (r : Nat) (cs : List Nat) (M' : List Cn), s = ⟨[some (.fz (.cid k)), some (.fz (.lst (es.map dEn))), some (.fz (.cid r)), some (.fz (.int (8 + w))), none, none, none, none], M'⟩ ∧ Sp M' k r ∧ (w ≠ 4 → Sp0 M' k r es cs)) ?_ ?_
  · walk_at "wi"
    refine z_if (fun h12 => ?_) (fun h12 => ?_)
    · walk_at "wi"
      refine fo_use (next_ok hsp.dr (z := 3) (by decide) (by decide)) ?_
      rintro _ M3 ⟨x, rfl, y0, y1, hk3⟩
      replace hsp := hsp.kpt hk3
      clear hk3
      obtain ⟨n, hn⟩ : ∃ n : Nat, 30 + x = (n : Int) := ⟨(30 + x).toNat, by omega⟩
      walk_at "wi"
      rw [hn]
      refine w_lcInv (fun i acc s => s = ⟨[some (.fz (.cid k)), some (.fz (.lst (es.map dEn))), some (.fz (.cid r)), some (.fz (.int (8 + w))), none, none, none, none], M3 ++ ((List.range i).map fun j : Nat => (⟨3 * (j : Int), nmN j, (j : Int) % 9, [(j : Int)]⟩ : En)).map (fun e => Cn.lst ((enB e).map D.int))⟩ ∧ acc = (List.range i).map (fun j => D.cid (M3.length + j))) ⟨by rw [List.range_zero, List.map_nil, List.map_nil, List.append_nil]; rfl, rfl⟩ (by rw [rng_len]; show _ ≤ 16777216; omega) ?_ ?_
      · rintro i y acc s hi ⟨rfl, rfl⟩
        obtain ⟨hi, rfl⟩ := rng_get hi
        obtain ⟨q1, q2⟩ := nmN_ok i (by omega)
        walk_at "wi"
        refine w_str (by rw [show (0 + (i : Int)).natAbs = i by omega]; exact Nat.lt_of_le_of_lt (Nat.log2_le_self i) (by omega)) ?_
        rw [show (0 + (i : Int)) = (i : Int) by omega, dgN_ok i (by omega), show Str.ofString "n" = tx [110] from by decide +kernel]
        walk_at "wi"
        refine w_addT (by show 1 + (dgN i).length ≤ 16777216; unfold dgN; split <;> (simp only [List.length_cons, List.length_nil]; omega)) ?_
        walk_at "wi"
        rw [show ([110] ++ dgN i : List Nat) = 110 :: dgN i from rfl, nmN_tx]
        have hw2 : EnW ⟨3 * (i : Int), nmN i, (i : Int) % 9, [(i : Int)]⟩ := ⟨by show 0 ≤ 3 * (i : Int) ∧ 3 * (i : Int) ≤ 255; omega, q2, q1, by show 1 ≤ 255; decide, fun p hp => by rw [List.mem_singleton.mp hp]; omega, by show 0 ≤ (i : Int) % 9 ∧ (i : Int) % 9 < 65536; omega⟩
        refine fo_eq (l_entry_ok hw2 _) ?_
        walk_at "wi"
        refine ⟨?_, ?_⟩
        · show Stt.mk _ _ = _
          rw [List.range_succ, List.map_append, List.map_append, ← List.append_assoc]; rfl
        · rw [List.range_succ, List.map_append, List.length_append, List.length_map, List.length_map, List.length_range]; rfl
      rintro _ _ ⟨rfl, rfl⟩
      rw [rng_len, rng_cid, Int.toNat_natCast]
      have hsq := sp0_new hsp.dr ((List.range n).map fun j : Nat => (⟨3 * (j : Int), nmN j, (j : Int) % 9, [(j : Int)]⟩ : En))
      rw [List.length_map (as := List.range n), List.length_range] at hsq
      walk_at "ds"
      refine ⟨_, rfl, ?_⟩
      refine ⟨_, [], _, rfl, ?_, fun h4 => by omega⟩
      refine hsq.sp (fun e he => ?_) (by rw [List.length_map, List.length_range]; omega)
      obtain ⟨j, hj, rfl⟩ := List.mem_map.mp he
      rw [List.mem_range] at hj
      obtain ⟨q1, q2⟩ := nmN_ok j (by omega)
      exact ⟨by show 0 ≤ 3 * (j : Int) ∧ 3 * (j : Int) ≤ 254; omega, q2, q1, by show 1 ≤ 1 ∧ 1 ≤ 255; decide, fun p hp => by rw [List.mem_singleton.mp hp]; omega, by show 0 ≤ (j : Int) % 9 ∧ (j : Int) % 9 ≤ 255 * ((1 : Nat) : Int); omega⟩
    · walk_at "wi"
      exact ⟨r, cs, M2, rfl, hsp.sp hok (by omega), fun _ => hsp⟩
  clear hsp M1 M2 r cs
  rintro s ⟨r, cs, M2, rfl, hsp, hsp0⟩
  walk_at "wi"
  refine w_join (fun s => ∃ (M' : List Cn) (w : Int), s = ⟨[some (.fz (.cid k)), some (.fz (.lst (es.map dEn))), some (.fz (.cid r)), some (.fz (.int w)), none, none, none, none], M'⟩ ∧ Sp M' k r) ?_ ?_
  · walk_at "wi"
    refine w_ne (k := es.isEmpty) (eqOf_of (x := .list (es.map pyEn)) (y := .list []) ?_ rfl ((lay_ens hok).shaped (by decide)) rfl ?_) ?_
    · show (D.py (.lst (es.map dEn))) = _
      show (D.pyL (es.map dEn)).map PyData.list = _
      rw [pyL_map dEn_py]; rfl
    · cases es <;> rfl
    cases hE : es.isEmpty with
    | true =>
      walk_at "wi"
      exact ⟨M2, _, rfl, hsp⟩
    | false =>
      have hl1 : 1 ≤ es.length := by cases es with
        | nil => cases hE
        | cons => simp
      walk_at "wi"
      by_cases h4 : w = 4
      · subst h4
        walk_at "wi"
        exact ⟨M2, _, rfl, hsp⟩
      · rw [decide_eq_false (show ¬ 8 + w = 12 by omega)]
        have hs0 := hsp0 h4
        walk_at "wi"
        refine fo_use (next_ok hs0.dr (z := 3) (by decide) (by decide)) ?_
        rintro _ M3 ⟨x, rfl, y0, y1, hk3⟩
        have hs3 := hs0.kpt hk3
        walk_at "wi"
        refine z_if (fun hx => ?_) (fun hx => ?_)
        · walk_at "wi"
          refine fo_use (spoilt_rows_ok hs3 hok ⟨hl1, hel⟩) ?_
          rintro _ M4 ⟨⟨w', rfl⟩, h4⟩
          walk_at "wi"
          exact ⟨M4, w', rfl, h4⟩
        · walk_at "wi"
          exact ⟨M3, _, rfl, hs3.sp hok (by omega)⟩
  clear hsp hsp0 M2 w0 w1
  rintro s ⟨M2, w, rfl, hsp⟩
  obtain ⟨ds, hr, hdl, hds⟩ := hsp.rs
  have hdr := hsp.dr
  walk_at "wi"
  refine ⟨ds, by show M2[r]?.bind _ = _; rw [hr]; rfl, ?_⟩
  refine w_forK (fun i s => ∃ (T : List Int) (e5 : Option Ent), s = ⟨[some (.fz (.cid k)), some (.fz (.lst (es.map dEn))), some (.fz (.cid r)), some (.fz (.int w)), some (.ow (.lst (T.map D.int))), e5, none, none], M2⟩ ∧ (∀ b ∈ T, 0 ≤ b ∧ b ≤ 255) ∧ 1 ≤ T.length ∧ T.length ≤ 1 + 900 * i) ⟨[(ds.length : Int)], _, rfl, fun b hb => by rw [List.mem_singleton.mp hb]; omega, by show 1 ≤ 1; decide, by show 1 ≤ 1 + 0; decide⟩ (by rintro i s ⟨_, _, rfl, _⟩; exact hr) ?_ ?_
  · rintro i d s hi ⟨T, e5, rfl, hT, hT1, hTl⟩
    have hil : i < ds.length := (List.getElem?_eq_some_iff.mp hi).1
    obtain ⟨⟨ns, g1, g2, g3⟩, hne⟩ := hds d (List.mem_of_getElem? hi)
    have push : ∀ b ∈ T ++ ns, 0 ≤ b ∧ b ≤ 255 := fun b hb => by
      rcases List.mem_append.mp hb with hb | hb
      · exact hT b hb
      · exact g2 b hb
    rcases g1 with rfl | ⟨c, rfl, gr, g1⟩
    · walk_at "wi"
      refine w_addL rfl rfl rfl (by rw [List.length_map, List.length_map]; show _ ≤ 16777216; omega) ?_
      rw [← List.map_append]
      walk_at "wi"
      exact ⟨T ++ ns, _, rfl, push, by rw [List.length_append]; omega, by rw [List.length_append]; omega⟩
    · walk_at "wi"
      refine w_addL rfl rfl (viewL_cid g1) (by rw [List.length_map, List.length_map]; show _ ≤ 16777216; omega) ?_
      rw [← List.map_append]
      walk_at "wi"
      exact ⟨T ++ ns, _, rfl, push, by rw [List.length_append]; omega, by rw [List.length_append]; omega⟩
  clear hr hds hsp
  rintro s ⟨T, e5, rfl, hT, hT1, hTl⟩
  replace hTl : T.length ≤ 36001 := by
    have h1 : T.length ≤ 1 + 900 * ds.length := hTl
    omega
  walk_at "wi"
  refine w_join (fun s => ∃ (T : List Int) (M' : List Cn), s = ⟨[some (.fz (.cid k)), some (.fz (.lst (es.map dEn))), some (.fz (.cid r)), some (.fz (.int w)), some (.ow (.lst (T.map D.int))), e5, none, none], M'⟩ ∧ (∀ b ∈ T, 0 ≤ b ∧ b ≤ 255) ∧ 1 ≤ T.length ∧ T.length ≤ 36001 ∧ Drw M' k) ?_ ?_
  · walk_at "wi"
    refine z_if (fun h8 => ?_) (fun h8 => ?_)
    · walk_at "wi"
      refine w_ixI rfl rfl rfl (by decide) (by omega) ?_
      walk_at "wi"
      refine fo_use (next_ok hdr (z := 2) (by decide) (by decide)) ?_
      rintro _ M3 ⟨x, rfl, y0, y1, hk3⟩
      have g0 := hT (T.getD (0 : Int).toNat 0) (by rw [show (0 : Int).toNat = 0 from rfl, List.getD_eq_getElem?_getD, List.getElem?_eq_getElem (by omega)]; exact List.getElem_mem _)
      walk_at "wi"
      refine so_setI rfl (by decide) (by omega) ?_
      walk_at "ds"
      exact ⟨_, M3, rfl, set_bd hT (by omega), by rw [List.length_set]; exact hT1, by rw [List.length_set]; exact hTl, hk3.dr⟩
    · walk_at "wi"
      exact ⟨T, M2, rfl, hT, hT1, hTl, hdr⟩
  clear hT hT1 hTl hdr M2 T
  rintro s ⟨T, M2, rfl, hT, hT1, hTl, hdr⟩
  walk_at "wi"
  refine w_join (fun s => ∃ (T : List Int) (M' : List Cn), s = ⟨[some (.fz (.cid k)), some (.fz (.lst (es.map dEn))), some (.fz (.cid r)), some (.fz (.int w)), some (.ow (.lst (T.map D.int))), e5, none, none], M'⟩ ∧ (∀ b ∈ T, 0 ≤ b ∧ b ≤ 255) ∧ 1 ≤ T.length ∧ T.length ≤ 36001 ∧ Drw M' k) ?_ ?_
  · walk_at "wi"
    refine z_if (fun h8 => ?_) (fun h8 => ?_)
    · walk_at "wi"
      refine fo_use (next_ok hdr (z := 256) (by decide) (by decide)) ?_
      rintro _ M3 ⟨x, rfl, y0, y1, hk3⟩
      walk_at "wi"
      rw [List.length_map]
      refine fo_use (next_ok hk3.dr (z := (T.length : Int)) (by omega) (by omega)) ?_
      rintro _ M4 ⟨y, rfl, z0, z1, hk4⟩
      walk_at "wi"
      refine so_setI rfl z0 z1 ?_
      walk_at "ds"
      exact ⟨_, M4, rfl, set_bd hT (by omega), by rw [List.length_set]; exact hT1, by rw [List.length_set]; exact hTl, hk4.dr⟩
    · walk_at "wi"
      exact ⟨T, M2, rfl, hT, hT1, hTl, hdr⟩
  clear hT hT1 hTl hdr M2 T
  rintro s ⟨T, M2, rfl, hT, hT1, hTl, hdr⟩
  walk_at "wi"
  refine w_addL (l := ([165, 91]).map D.int) (l' := T.map D.int) rfl rfl rfl (by rw [List.length_map, List.length_map]; show 2 + _ ≤ 16777216; omega) ?_
  rw [← List.map_append]
  walk_at "wi"
  refine fo_eq (l_sum_ok (fun y hy => by have := hT y hy; omega) _) ?_
  walk_at "wi"
  have hcb := crcB_bd (ns := T) (fun y hy => by have := hT y hy; omega)
  have hcl := crcB_len T
  refine w_addL rfl rfl rfl (by rw [List.length_map, List.length_map, List.length_append, hcl]; show 2 + _ + 2 ≤ 16777216; omega) ?_
  rw [← List.map_append]
  have hRb : ∀ b ∈ [165, 91] ++ T ++ crcB T, 0 ≤ b ∧ b ≤ 255 := fun b hb => by
    rcases List.mem_append.mp hb with hb | hb
    · rcases List.mem_append.mp hb with hb | hb
      · simp at hb; omega
      · exact hT b hb
    · have := hcb b hb; omega
  have hRl : ([165, 91] ++ T ++ crcB T).length = T.length + 4 := by rw [List.length_append, List.length_append, hcl]; show 2 + _ + 2 = _; omega
  generalize [165, 91] ++ T ++ crcB T = R at *
  walk_at "wi"
  refine w_join (fun s => ∃ (R : List Int) (M' : List Cn), s = ⟨[some (.fz (.cid k)), some (.fz (.lst (es.map dEn))), some (.fz (.cid r)), some (.fz (.int w)), some (.fz (.lst (T.map D.int))), some (.ow (.lst (R.map D.int))), none, none], M'⟩ ∧ (∀ b ∈ R, 0 ≤ b ∧ b ≤ 255) ∧ 4 ≤ R.length ∧ R.length ≤ 37000 ∧ Drw M' k) ?_ ?_
  · walk_at "wi"
    refine z_if (fun h8 => ?_) (fun h8 => ?_)
    · walk_at "wi"
      refine fo_use (next_ok hdr (z := 256) (by decide) (by decide)) ?_
      rintro _ M3 ⟨x, rfl, y0, y1, hk3⟩
      walk_at "wi"
      rw [List.length_map]
      refine fo_use (next_ok hk3.dr (z := 2) (by decide) (by decide)) ?_
      rintro _ M4 ⟨y, rfl, z0, z1, hk4⟩
      walk_at "wi"
      refine so_setI rfl (by omega) (by omega) ?_
      walk_at "ds"
      exact ⟨_, M4, rfl, set_bd hRb (by omega), by rw [List.length_set]; omega, by rw [List.length_set]; omega, hk4.dr⟩
    · walk_at "wi"
      exact ⟨R, M2, rfl, hRb, by omega, by omega, hdr⟩
  clear hRb hRl hdr M2 R
  rintro s ⟨R, M2, rfl, hRb, hR4, hRl, hdr⟩
  walk_at "wi"
  refine w_join (fun s => ∃ (R : List Int) (M' : List Cn), s = ⟨[some (.fz (.cid k)), some (.fz (.lst (es.map dEn))), some (.fz (.cid r)), some (.fz (.int w)), some (.fz (.lst (T.map D.int))), some (.ow (.lst (R.map D.int))), none, none], M'⟩ ∧ (∀ b ∈ R, 0 ≤ b ∧ b ≤ 255) ∧ R.length ≤ 37000 ∧ Drw M' k) ?_ ?_
  · walk_at "wi"
    refine z_if (fun h8 => ?_) (fun h8 => ?_)
    · walk_at "wi"
      rw [List.length_map]
      refine fo_use (next_ok hdr (z := (R.length : Int)) (by omega) (by omega)) ?_
      rintro _ M3 ⟨x, rfl, y0, y1, hk3⟩
      walk_at "wi"
      rw [cutL_to _ y0, ← List.map_take]
      exact ⟨_, M3, rfl, fun b hb => hRb b (List.mem_of_mem_take hb), by rw [List.length_take]; omega, hk3.dr⟩
    · walk_at "wi"
      exact ⟨R, M2, rfl, hRb, hRl, hdr⟩
  clear hRb hR4 hRl hdr M2 R
  rintro s ⟨R, M2, rfl, hRb, hRl, hdr⟩
  walk_at "wi"
  exact ⟨R, rfl, hRb, hRl, hdr⟩

/-! ### the law -/
theorem lay_told {es : List En} (h : ∀ e ∈ es, EnOk e) (z : Int) : Lay 5 (.tuple [.list (es.map pyEn), .int z]) := lay_tup (k := 4) fun x hx => by
  simp at hx
  rcases hx with rfl | rfl
  · exact lay_ens h
  · exact lay_int.mono (by decide)
theorem pyR_told {s : Stt} (es : List En) (z : Int) : pyR s (.val (.tup [.lst (es.map dEn), .int z])) = some (.tuple [.list (es.map pyEn), .int z]) := by
  have e : rsv 9 s.M (.tup [.lst (es.map dEn), .int z]) = some (.tup [.lst (es.map dEn), .int z]) := by
    refine rsv_tints 8 s.M _ _ ?_
    simp only [mapO]
    rw [show Y.rsv 8 s.M (.lst (es.map dEn)) = (mapO (Y.rsv 7 s.M) (es.map dEn)).map D.lst from rfl, mapO_rsv_en 4]; rfl
  show (rsv 9 s.M (.tup [.lst (es.map dEn), .int z])).bind D.py = _
  rw [e, Option.bind_some]
  show (D.pyL [.lst (es.map dEn), .int z]).map PyData.tuple = _
  simp only [D.pyL, D.py]
  rw [pyL_map dEn_py]; rfl
theorem get5 {x y : Int} (hx : 0 ≤ x ∧ x < 256) (hy : 0 ≤ y ∧ y < 5) : 0 ≤ ([165, 91, 0, 1, x] : List Int).getD y.toNat 0 ∧ ([165, 91, 0, 1, x] : List Int).getD y.toNat 0 ≤ 255 := by
  rcases (show y = 0 ∨ y = 1 ∨ y = 2 ∨ y = 3 ∨ y = 4 by omega) with e | e | e | e | e <;> subst e
  · show (0 : Int) ≤ 165 ∧ (165 : Int) ≤ 255; decide
  · show (0 : Int) ≤ 91 ∧ (91 : Int) ≤ 255; decide
  · show (0 : Int) ≤ 0 ∧ (0 : Int) ≤ 255; decide
  · show (0 : Int) ≤ 1 ∧ (1 : Int) ≤ 255; decide
  · show 0 ≤ x ∧ x ≤ 255; omega
theorem get3 {y : Int} (hy : 0 ≤ y ∧ y < 3) : 0 ≤ ([165, 91, 0] : List Int).getD y.toNat 0 ∧ ([165, 91, 0] : List Int).getD y.toNat 0 ≤ 255 := by
  rcases (show y = 0 ∨ y = 1 ∨ y = 2 by omega) with e | e | e <;> subst e <;> decide
theorem fo_ex' {P : AI → List Cn → Prop} {r : Fr} (h : Fo P r) : ∃ a M', r = .ok a M' ∧ P a M' := by
  cases r with
  | ok a M' => exact ⟨a, M', rfl, h⟩
  | er x M' => exact h.elim
  | no => exact h.elim
theorem tail_ok {R : List Int} (hCE : ∀ b ∈ R, 0 ≤ b ∧ b ≤ 255) (hCEl : R.length ≤ 38010) {N : Stt → Prop} {O : Rs → Prop} {s0 s1 s2 e4 e5 e6 : Option Ent} {M8 : List Cn} (hN : ∀ e3 e4 e5 e6, N ⟨[s0, s1, s2, e3, e4, e5, e6], M8⟩) : Ws N O ((mSeq (mAsg 5 (mI (mV (mCB fList (aCons (mName 3) aNil)))))
  (mSeq (mFor (mRng1 (aCons (mOp fAdd (mCB fLen (aCons (mName 3) aNil)) (mC (.int 2))) aNil)) (tgN 6) (mIfS (mBl (mOp fNeR (mCallP m_book_at (vCons (mName 5) (vCons (mName 6) vNil))) (mCallN m_l_due (vCons (mName 3) (vCons (mName 6) vNil))))) (mRet (mC (.bl false))) mNext))
  (mIfS (mBl (mOp fNe (mName 5) (mName 3))) (mRet (mC (.bl false))) mNext))) ⟨[s0, s1, s2, some (.ow (.lst (R.map D.int))), e4, e5, e6], M8⟩) := by
  have hlm : (R.map D.int).length = R.length := List.length_map ..
  with_reducible refine w_join (fun s => s = ⟨[s0, s1, s2, some (.ow (.lst (R.map D.int))), e4, some (.fz (.lst (R.map D.int))), e6], M8⟩) ?_ ?_
  · walk_at "w"
    try exact rfl
  intro s hs
  subst hs
  walk_at "w"
  rw [hlm]
  refine w_forN (fun j s => ∃ (e6 : Option Ent) (f3 : Ent), s = ⟨[s0, s1, s2, some f3, e4, some (.fz (.lst (R.map D.int))), e6], M8⟩ ∧ (f3 = .ow (.lst (R.map D.int)) ∨ f3 = .fz (.lst (R.map D.int)))) ⟨_, _, rfl, .inl rfl⟩ ?_ ?_
  · rintro j x s hj ⟨e6, f3, rfl, hf3⟩
    obtain ⟨hj, rfl⟩ := rng_get hj
    have hjl : j < R.length + 2 := by omega
    have hpf := book_at_pf hCE (by omega) (q := j) (by omega)
    have hdu := due_ok hCE (by omega) (q := j) (by omega) M8
    rw [show ((j : Nat) : Int) = 0 + (j : Int) by omega] at hpf hdu
    have hbf := fun es z (e : bkAt (R.drop j) = some (es, z)) => (bk_flw (fun y hy => hCE y (List.mem_of_mem_drop hy)) e).1
    rcases hf3 with rfl | rfl
    all_goals
      walk_at "w"
      cases e : bkAt (R.drop j) with
      | none =>
        rw [e] at hpf hdu
        refine pf_eq hpf ?_
        walk_at "w"
        refine fo_use hdu ?_
        rintro _ M9 ⟨rfl, rfl⟩
        refine w_neR (eqR_same (x := .none) (k := 1) rfl rfl lay_none (by decide)) ?_
        walk_at "w"
        exact ⟨_, _, rfl, .inr rfl⟩
      | some v =>
        obtain ⟨bs, z⟩ := v
        rw [e] at hpf hdu
        refine pf_eq hpf ?_
        walk_at "w"
        refine fo_use hdu ?_
        rintro _ M9 ⟨rfl, rfl⟩
        refine w_neR (eqR_same (pyR_told bs _) (pyR_told bs _) (lay_told (hbf bs z e) _) (by decide)) ?_
        walk_at "w"
        exact ⟨_, _, rfl, .inr rfl⟩
  rintro s ⟨e6, f3, rfl, hf3⟩
  rcases hf3 with rfl | rfl
  all_goals
    walk_at "w"
    refine w_ne (_root_.Y.eqOf_ints (ns := R) (ms := R) rfl rfl (.inl rfl) (.inl rfl)) ?_
    rw [decide_eq_true rfl]
    walk_at "w"
    exact hN _ _ _ _
theorem lawT (ns : List Int) (hn : ns.length ≤ 63) : ∃ M', m_law [.clst (ns.map D.int)] [] = .ok (.val (.bl true)) M' := by
  refine (fun (h : Fo (fun a _ => a = .val (.bl true)) (m_law [.clst (ns.map D.int)] [])) => by
    obtain ⟨_, M', e, rfl⟩ := fo_ex' h
    exact ⟨M', e⟩) ?_
  walk_at "f0"; unfold b_law
  walk_at "w"
  rw [List.length_map]
  walk_at "w"
  refine w_forN (fun i s => ∃ (e1 e2 e3 e4 e5 e6 : Option Ent) (M : List Cn), s = ⟨[some (.fz (.clst (ns.map D.int))), e1, e2, e3, e4, e5, e6], M⟩) ⟨_, _, _, _, _, _, _, rfl⟩ ?_ ?_
  · rintro i x s hi ⟨e1, e2, e3, e4, e5, e6, M, rfl⟩
    obtain ⟨hi, rfl⟩ := rng_get hi
    walk_at "w"
    refine w_ixI rfl rfl rfl (by omega) (by omega) ?_
    generalize ns.getD _ 0 = cell
    walk_at "w"
    refine fo_use (draw_ok cell M) ?_
    rintro _ M1 ⟨a, b, rfl, rfl⟩
    refine ⟨_, rfl, ?_⟩
    have hdr : Drw (M1 ++ [.lst [.int a, .int b]]) M1.length := ⟨a, b, app_at _ _ _⟩
    generalize M1 ++ [Cn.lst [.int a, .int b]] = M2 at *
    generalize M1.length = k at *
    walk_at "w"
    refine fo_use (next_ok hdr (z := 9) (by decide) (by decide)) ?_
    rintro _ M3 ⟨m, rfl, m0, m1, hk⟩
    replace hdr := hk.dr
    clear hk
    walk_at "w"
    refine w_forN (fun j s => ∃ (e4 : Option Ent) (A : List Int) (M : List Cn), s = ⟨[some (.fz (.clst (ns.map D.int))), some (.fz (.int (0 + (i : Int)))), some (.fz (.cid k)), some (.ow (.lst (A.map D.int))), e4, e5, e6], M⟩ ∧ A.length = j ∧ (∀ b ∈ A, 0 ≤ b ∧ b ≤ 255) ∧ Drw M k) ⟨_, [], M3, rfl, rfl, (fun b hb => by cases hb), hdr⟩ ?_ ?_
    · rintro j x s hj ⟨e4, A, M, rfl, hAl, hA, hd⟩
      obtain ⟨hj, rfl⟩ := rng_get hj
      walk_at "w"
      refine fo_use (next_ok hd (z := 256) (by decide) (by decide)) ?_
      rintro _ M4 ⟨u, rfl, u0, u1, hk⟩
      replace hd := hk.dr
      clear hk
      walk_at "w"
      refine fo_use (next_ok hd (z := 5) (by decide) (by decide)) ?_
      rintro _ M5 ⟨v, rfl, v0, v1, hk⟩
      replace hd := hk.dr
      clear hk
      refine w_ixI (ns := [165, 91, 0, 1, u]) rfl rfl rfl v0 (by show v < 5; omega) ?_
      have hv := get5 (x := u) ⟨u0, u1⟩ ⟨v0, v1⟩
      generalize ([165, 91, 0, 1, u] : List Int).getD v.toNat 0 = q at *
      walk_at "w"
      refine w_app rfl (by rw [List.length_map]; show _ < 16777216; omega) ?_
      walk_at "ds"
      refine ⟨_, A ++ [q], M5, by rw [List.map_append]; rfl, by rw [List.length_append, hAl]; rfl, fun b hb => ?_, hd⟩
      rcases List.mem_append.mp hb with hb | hb
      · exact hA b hb
      · rw [List.mem_singleton.mp hb]; exact hv
    rintro s ⟨e4, A, M, rfl, hAl, hA, hd⟩
    rw [rng_len] at hAl
    clear hdr
    walk_at "w"
    refine w_ixI (ns := [60, 270]) rfl rfl rfl (by split <;> decide) (by show (if _ then (1 : Int) else 0) < 2; split <;> decide) ?_
    obtain ⟨mx, hmx, hmx1⟩ : ∃ m : Int, ([60, 270] : List Int).getD (if decide (0 + (i : Int) = 0) = true then (1 : Int) else 0).toNat 0 = m ∧ 1 ≤ m := by
      split
      · exact ⟨270, rfl, by decide⟩
      · exact ⟨60, rfl, by decide⟩
    rw [hmx]
    walk_at "w"
    refine fo_use (l_entries_ok hd hmx1) ?_
    rintro _ M5 ⟨es, rfl, hel, hfl, hk⟩
    replace hd := hk.dr
    clear hk
    have hok := flw_ok hfl
    walk_at "w"
    refine fo_use (l_spoilt_ok hd hok hel) ?_
    rintro _ M6 ⟨B, rfl, hB, hBl, hd⟩
    walk_at "w"
    refine w_addL rfl rfl rfl (by rw [List.length_map, List.length_map]; show _ ≤ 16777216; omega) ?_
    rw [← List.map_append]
    have hAB : ∀ b ∈ A ++ B, 0 ≤ b ∧ b ≤ 255 := fun b hb => by
      rcases List.mem_append.mp hb with hb | hb
      · exact hA b hb
      · exact hB b hb
    have hABl : (A ++ B).length ≤ 38000 := by rw [List.length_append]; omega
    generalize A ++ B = C at *
    clear hA hB
    walk_at "w1"
    with_reducible refine w_join (fun s => ∃ (R : List Int) (e4 : Option Ent) (M : List Cn), (∀ b ∈ R, 0 ≤ b ∧ b ≤ 255) ∧ R.length ≤ 38010 ∧ s = ⟨[some (.fz (.clst (ns.map D.int))), some (.fz (.int (0 + (i : Int)))), some (.fz (.cid k)), some (.ow (.lst (R.map D.int))), e4, e5, e6], M⟩) ?_ ?_
    rotate_left
    · intro s hs
      obtain ⟨R, e4', M9, hCE, hCEl, hs⟩ := hs
      subst hs
      with_reducible refine tail_ok hCE hCEl ?_
      intro e3 e4 e5 e6
      exact ⟨_, _, _, _, _, _, _, rfl⟩
    walk_at "w"
    refine fo_use (next_ok hd (z := 5) (by decide) (by decide)) ?_
    rintro _ M7 ⟨m, rfl, m0, m1, hk⟩
    replace hd := hk.dr
    clear hk
    walk_at "w"
    refine w_lcInv (fun j acc s => ∃ (E : List Int) (M : List Cn), s = ⟨[some (.fz (.clst (ns.map D.int))), some (.fz (.int (0 + (i : Int)))), some (.fz (.cid k)), some (.ow (.lst (C.map D.int))), none, e5, e6], M⟩ ∧ acc = E.map D.int ∧ E.length = j ∧ (∀ b ∈ E, 0 ≤ b ∧ b ≤ 255) ∧ Drw M k) ⟨[], M7, rfl, rfl, rfl, (fun b hb => by cases hb), hd⟩ (by rw [rng_len]; show _ ≤ 16777216; omega) ?_ ?_
    · rintro j x acc s hj ⟨E, M, rfl, rfl, hEl, hE, hd⟩
      obtain ⟨hj, rfl⟩ := rng_get hj
      walk_at "w"
      refine fo_use (next_ok hd (z := 3) (by decide) (by decide)) ?_
      rintro _ M8 ⟨v, rfl, v0, v1, hk⟩
      refine w_ixI (ns := [165, 91, 0]) rfl rfl rfl v0 (by show v < 3; omega) ?_
      have hv := get3 ⟨v0, v1⟩
      generalize ([165, 91, 0] : List Int).getD v.toNat 0 = q at *
      walk_at "w"
      refine ⟨E ++ [q], M8, rfl, by rw [List.map_append]; rfl, by rw [List.length_append, hEl]; rfl, fun b hb => ?_, hk.dr⟩
      rcases List.mem_append.mp hb with hb | hb
      · exact hE b hb
      · rw [List.mem_singleton.mp hb]; exact hv
    rintro _ _ ⟨E, M8, rfl, rfl, hEl, hE, hd⟩
    rw [rng_len] at hEl
    obtain ⟨e4', he4⟩ : ∃ e4', Y.rest [some (.fz (.clst (ns.map D.int))), some (.fz (.int (0 + (i : Int)))), some (.fz (.cid k)), some (.ow (.lst (C.map D.int))), e4, e5, e6] [some (.fz (.clst (ns.map D.int))), some (.fz (.int (0 + (i : Int)))), some (.fz (.cid k)), some (.ow (.lst (C.map D.int))), none, e5, e6] [4] = [some (.fz (.clst (ns.map D.int))), some (.fz (.int (0 + (i : Int)))), some (.fz (.cid k)), some (.ow (.lst (C.map D.int))), e4', e5, e6] := ⟨_, rfl⟩
    dsimp only
    rw [he4]
    clear he4
    refine w_addL rfl rfl rfl (by rw [List.length_map, List.length_map]; show _ ≤ 16777216; omega) ?_
    rw [← List.map_append]
    have hCE : ∀ b ∈ C ++ E, 0 ≤ b ∧ b ≤ 255 := fun b hb => by
      rcases List.mem_append.mp hb with hb | hb
      · exact hAB b hb
      · exact hE b hb
    have hCEl : (C ++ E).length ≤ 38010 := by rw [List.length_append]; omega
    generalize C ++ E = R at *
    clear hAB hE
    walk_at "w"
    exact ⟨R, _, _, hCE, hCEl, rfl⟩
  · rintro s ⟨e1, e2, e3, e4, e5, e6, M, rfl⟩
    walk_at "w"
    exact rfl

theorem ok_law' {P : Program} {w : World} {K : PySem.W.Frag} {mg : Str → Option Value} {base : Heap} (hl : ∀ ns : List Int, ns.length ≤ 63 → ∃ M', m_law [.clst (ns.map D.int)] [] = .ok (.val (.bl true)) M') (T : Tx K mg) : FnOk P w K mg base CX0 5 T.a_law T.d_law ["_law_script"] (spLaw K) :=
  (ok_law T).imp (fun vs H Q E h => by
    obtain ⟨a, ns, rfl, hS, hn, _, q⟩ := h
    obtain ⟨M', e⟩ := hl ns hn
    refine ⟨⟨H, fun _ => 0, fun _ => none⟩, [], [.clst (ns.map D.int)], ⟨(fun _ _ e => by rw [show (ctT T).lk = none from rfl, U0]; exact e), (fun a l e => nomatch e), fun _ e => e, rfl, (fun i e q => by simp at q), (fun k c q => by simp at q)⟩, .cons (.clst hS (rpl_ints ns)) .nil, ?_⟩
    rw [e]
    intro S' v H' st rel it
    cases rp_bl it
    exact q H')
end K42
theorem PySem.Challenge.cw_tornshelf_k42_books_at_places_holds : PySem.Challenge.rw_tornshelf_k42_books_at_places.Holds :=
  K42.early fun T => K42.ok_law' K42.lawT T
