import PyProof.Rows.All
import Wide.All
import OpenK.AllK
import Wide.FinOn
import HandS.ForMost
import HandS.IsInst
import HandS.Flow
import PySem.Challenge.RW_tornshelf_k05_sums_of_rows
set_option Elab.async false
set_option linter.all false
set_option maxRecDepth 100000
set_option maxHeartbeats 4000000
namespace Z
open PySem L2
/-! ## Forgetting what a piece of code has made and dropped -/
def isDT : HO → Bool
  | .dT _ => true
  | .frz _ u => isDT u
  | _ => false
def okA (G : Hp) (a : Addr) : HO → Prop
  | .ins _ dx _ => G dx = some (.own a)
  | .frz _ u => okA G a u
  | _ => True
def kept : HO → Bool
  | .tup _ => true
  | .frz _ _ => true
  | .tbl _ => true
  | _ => false
/-- from H on, H' was reached; G, a part of H', is all that is still told -/
structure Gc (H H' G : Hp) : Prop where
  sub : ∀ a o, G a = some o → H' a = some o
  ok : ∀ a o, G a = some o → okA G a o ∨ (H a = some o ∧ ∀ b, H b = some (.own a) → G b = some (.own a))
  keep : ∀ b o, H b = some o → kept o = true → G b = some o
  dt : (∀ a o, G a = some o → isDT o = false) ∨ ∀ b xs, H' b = some (.tup xs) → G b = some (.tup xs)
section
variable {P : Program} {w : World} {H H' G : Hp} {h : Heap} {a : Addr} {o : HO}
theorem obj_sub (x : ObjOk P w H' h a o) (k : okA G a o) (d : isDT o = false ∨ ∀ b xs, H' b = some (.tup xs) → G b = some (.tup xs)) : ObjOk P w G h a o := by
  induction o with
  | lst xs => exact x
  | tup xs => exact x
  | dK kvs => exact x
  | dT kvs =>
    rcases d with d | d
    · cases d
    · obtain ⟨z, y, xs, r, q⟩ := x
      exact ⟨z, y, xs, Paired.mapP r fun p q z => ⟨z.1, d _ _ z.2.1, z.2.2⟩, q⟩
  | set S n => exact x
  | ins C dx fs => exact ⟨k, x.2⟩
  | own y => exact x
  | xd fs => exact x
  | rng lo hi => exact x
  | frz ob u ih => exact ⟨x.1, ih x.2 k d⟩
  | tbl ps => exact x
  | met f y => exact x
  | ext φ => exact x
theorem okA_of (x : ObjOk P w H h a o) (k : ∀ b, H b = some (.own a) → G b = some (.own a)) : okA G a o := by
  induction o with
  | ins C dx fs => exact k _ x.1
  | frz ob u ih => exact ih x.2
  | _ => trivial
end
section
variable {X : Cx} {pins pins' : List (Addr × Obj)} {σ σ' : List (Option V)} {H H' G : Hp} {s s' : Shared}
theorem none_sub (g : Gc H H' G) {b : Addr} (e : H' b = none) : G b = none := by
  cases q : G b with
  | none => rfl
  | some o => rw [g.sub b o q] at e; cases e
theorem inv_gc (hk : HOk X.prog X.w H s.heap) (I : Inv X pins σ H s) (J : Inv X pins' σ' H' s') (g : Gc H H' G) : Inv X pins' σ' G s' where
  ok := J.ok
  os := J.os
  bare := J.bare
  base :=
    { keep := J.base.keep
      slot := J.base.slot
      free := fun b o q n hx => none_sub g (J.base.free b o q n hx)
      there := J.base.there
      tups := fun b xs q => g.keep b _ (I.base.tups b xs q) rfl
      frzs := fun b o u q => g.keep b _ (I.base.frzs b o u q) rfl
      tbls := fun b ps q => by
        obtain ⟨more, e⟩ := I.base.tbls b ps q
        exact ⟨more, g.keep b _ e rfl⟩ }
  loc := J.loc
  cell := J.cell
  free := none_sub g J.free
  freeC := fun x c e => none_sub g (J.freeC x c e)
  pin := fun p hp => ⟨(J.pin p hp).1, none_sub g (J.pin p hp).2.1, (J.pin p hp).2.2⟩
  hok := fun a o e => by
    have x : ObjOk X.prog X.w H' s'.heap a o := J.hok a o (g.sub a o e)
    refine obj_sub x ?_ ?_
    · rcases g.ok a o e with k | ⟨q, k⟩
      · exact k
      · exact okA_of (hk a o q) k
    · rcases g.dt with d | d
      · exact .inl (d a o e)
      · exact .inr d
  len := J.len
/-- an expression, what it made and dropped forgotten -/
def tGc (t : TE) : TE := fun σ H Q => t σ H fun v H' => ∃ G, Gc H H' G ∧ Q v G
def uGc (t : TT) : TT := fun σ H Q => t σ H fun v H' => ∃ G, Gc H H' G ∧ Q v G
def sGc (t : TS) : TS := fun D σ H => t ⟨fun σ' H' => ∃ G, Gc H H' G ∧ D.nx σ' G, fun v H' => ∃ G, Gc H H' G ∧ D.rt v G, fun σ' H' => ∃ G, Gc H H' G ∧ D.bk σ' G, fun σ' H' => ∃ G, Gc H H' G ∧ D.ct σ' G⟩ σ H
theorem pe_gc {e : Expr} {t : TE} (h : PE X e t) : PE X e (tGc t) := by
  refine ⟨fun pins s σ H Q I q => thn (h.run pins s σ H _ I q) fun u s1 ⟨v, H1, I1, r, G, g, q1⟩ => ?_⟩
  exact ⟨v, G, inv_gc I.hok I I1 g, r, q1⟩
theorem pt_gc {e : Expr} {t : TT} (h : PT X e t) : PT X e (uGc t) := by
  refine ⟨fun pins s σ H Q I q => thn (h.run pins s σ H _ I q) fun u s1 ⟨H1, I1, G, g, q1⟩ => ?_⟩
  exact ⟨G, inv_gc I.hok I I1 g, q1⟩
theorem sp_gc {pins : List (Addr × Obj)} {σ : St} {H : Hp} {s s1 : Shared} {D : Ends} {f : Flow} (I : Inv X pins σ H s)
    (q : SP X pins ⟨fun σ' H' => ∃ G, Gc H H' G ∧ D.nx σ' G, fun v H' => ∃ G, Gc H H' G ∧ D.rt v G, fun σ' H' => ∃ G, Gc H H' G ∧ D.bk σ' G, fun σ' H' => ∃ G, Gc H H' G ∧ D.ct σ' G⟩ f s1) : SP X pins D f s1 := by
  cases f with
  | next =>
    obtain ⟨σ1, H1, I1, G, g, q1⟩ := q
    exact ⟨σ1, G, inv_gc I.hok I I1 g, q1⟩
  | brk =>
    obtain ⟨σ1, H1, I1, G, g, q1⟩ := q
    exact ⟨σ1, G, inv_gc I.hok I I1 g, q1⟩
  | cont =>
    obtain ⟨σ1, H1, I1, G, g, q1⟩ := q
    exact ⟨σ1, G, inv_gc I.hok I I1 g, q1⟩
  | ret u =>
    obtain ⟨v, σ1, H1, I1, r, G, g, q1⟩ := q
    exact ⟨v, σ1, G, inv_gc I.hok I I1 g, r, q1⟩
theorem ps_gc {st : Stmt} {t : TS} (h : PS X st t) : PS X st (sGc t) := ⟨fun pins s σ H D I q => thn (h.run pins s σ H _ I q) fun _ _ q1 => sp_gc I q1⟩
theorem pss_gc {st : List Stmt} {t : TS} (h : PSs X st t) : PSs X st (sGc t) := ⟨fun pins s σ H D I q => thn (h.run pins s σ H _ I q) fun _ _ q1 => sp_gc I q1⟩
end
/-- no dict with tuples for keys -/
def ND (H : Hp) : Prop := ∀ a o, H a = some o → isDT o = false
theorem ND.upd {H : Hp} {p : Addr} {o : HO} (h : ND H) (ho : isDT o = false := by rfl) : ND (upd H p o) := fun a u e => by
  by_cases q : a = p
  · subst q; rw [upd_same] at e; cases e; exact ho
  · rw [upd_ne q] at e; exact h a u e
theorem only_nd {H : Hp} (h : L2.Only H) : ND H := fun a o e => by
  rcases h a with q | ⟨o', xs, q⟩
  · rw [q] at e; cases e
  · rw [q] at e; cases e; rfl
section
variable {H H' G H1 : Hp} {p q : Addr} {o : HO}
theorem gc_same (h : Same H H') (nd : ND H) : Gc H H' H := ⟨h, fun a o e => .inr ⟨e, fun _ q => q⟩, fun _ _ e _ => e, .inl nd⟩
/-- where no tuple is new -/
theorem gc_sameT (h : Same H H') (nt : ∀ b xs, H' b = some (.tup xs) → H b = some (.tup xs)) : Gc H H' H := ⟨h, fun a o e => .inr ⟨e, fun _ q => q⟩, fun _ _ e _ => e, .inr nt⟩
def flatO : HO → Bool
  | .ins _ _ _ => false
  | .frz _ _ => false
  | .dT _ => false
  | _ => true
theorem okA_flat {G : Hp} {a : Addr} {o : HO} (h : flatO o = true) : okA G a o := by
  cases o <;> first | trivial | cases h
theorem isDT_flat {o : HO} (h : flatO o = true) : isDT o = false := by
  cases o <;> first | rfl | cases h
theorem okA_upd {G : Hp} {a p : Addr} {o u : HO} (e : H' p = some o) (sub : ∀ a o, G a = some o → H' a = some o) (k : okA G a u) : okA (upd G p o) a u := by
  induction u with
  | ins C dx fs =>
    show upd G p o dx = _
    by_cases q : dx = p
    · subst q
      have e2 : H' dx = some (.own a) := sub _ _ k
      rw [e] at e2
      rw [upd_same, e2]
    · rw [upd_ne q]
      exact k
  | frz ob u ih => exact ih k
  | _ => trivial
theorem upd_sub {G : Hp} {p b : Addr} {o u : HO} (e : H' p = some o) (h : H' b = some u) (k : G b = some u) : upd G p o b = some u := by
  by_cases q : b = p
  · subst q
    rw [upd_same, ← e, h]
  · rw [upd_ne q]
    exact k
/-- one more thing is told -/
theorem Gc.put (g : Gc H H' G) (e : H' p = some o) (f : flatO o = true := by rfl) : Gc H H' (upd G p o) where
  sub := fun a u h => by
    by_cases q : a = p
    · subst q; rw [upd_same] at h; cases h; exact e
    · rw [upd_ne q] at h; exact g.sub a u h
  ok := fun a u h => by
    by_cases q : a = p
    · subst q; rw [upd_same] at h; cases h; exact .inl (okA_flat f)
    · rw [upd_ne q] at h
      rcases g.ok a u h with k | ⟨k1, k2⟩
      · exact .inl (okA_upd e g.sub k)
      · exact .inr ⟨k1, fun b hb => upd_sub e (g.sub _ _ (k2 b hb)) (k2 b hb)⟩
  keep := fun b u h k => upd_sub e (g.sub _ _ (g.keep b u h k)) (g.keep b u h k)
  dt := by
    rcases g.dt with d | d
    · refine .inl fun a u h => ?_
      by_cases q : a = p
      · subst q; rw [upd_same] at h; cases h; exact isDT_flat f
      · rw [upd_ne q] at h; exact d a u h
    · exact .inr fun b xs h => upd_sub e h (d b xs h)
theorem same_up (h : Same H H1) (hq : H q = none) : Same H (upd H1 q o) := fun b u e => by
  rw [upd_ne (ne_of_none e hq)]
  exact h b u e
theorem same_new (h : Same H H1) (hq : H1 q = none) : Same H (upd H1 q o) := same_up h (h.free hq)
theorem upd_none {a : Addr} : upd H p o a = none ↔ a ≠ p ∧ H a = none := by
  unfold upd
  by_cases e : a = p
  · simp [e]
  · simp [e]
end

/-! ## Rules that serve several kinds at once -/
section
variable {X : Cx}
theorem OpR.or {f : Value → Value → Sem Value} {r r' : R2} (a : OpR X f r) (b : OpR X f r') : OpR X f (fun x y H Q => r x y H Q ∨ r' x y H Q) :=
  fun pins s σ H x y v u Q I rx ry h => h.elim (fun h => a pins s σ H x y v u Q I rx ry h) fun h => b pins s σ H x y v u Q I rx ry h
theorem CallR.or {f : Value} {r r' : List V → Hp → VK → Prop} (a : CallR X f r) (b : CallR X f r') : CallR X f (fun x H Q => r x H Q ∨ r' x H Q) :=
  fun pins s σ H xs us Q I rx h => h.elim (fun h => a pins s σ H xs us Q I rx h) fun h => b pins s σ H xs us Q I rx h
/-- list + list, both to be read -/
def rCatZ (K : PySem.W.Frag) : R2 := fun x y H Q => ∃ l b xs zs, x = .ref l ∧ y = .ref b ∧ SqL K H l xs ∧ SqL K H b zs ∧ xs.length + zs.length ≤ sizeLine ∧ ∀ p, H p = none → Q (.ref p) (upd H p (.lst (xs ++ zs)))
def rAddZ (K : PySem.W.Frag) : R2 := fun x y H Q => (rI0 (fun i j => .int (i + j)) x y H Q ∨ ∃ i j, x = .str i ∧ y = .str j ∧ i.length + j.length ≤ sizeLine ∧ Q (.str (i ++ j)) H) ∨ rCatZ K x y H Q
theorem op_catZ : OpR X (binaryOp .Add) (rCatZ X.K) := by
  intro pins s σ H x y v u Q I rx ry h
  obtain ⟨l, b, xs, zs, rfl, rfl, hH, hB, hz, q⟩ := h
  cases rx
  cases ry
  obtain ⟨its, r, pl, z⟩ := I.list hH
  obtain ⟨its2, r2, pl2, z2⟩ := I.list hB
  have l1 := r.length
  have l2 := r2.length
  obtain ⟨⟨cls, dd, data, sl⟩, ho, hc, n, hd⟩ := pl.isList
  obtain ⟨⟨cls2, dd2, data2, sl2⟩, ho2, hc2, n2, hd2⟩ := pl2.isList
  simp only at hc hd hc2 hd2
  subst hc hd hc2 hd2
  have e : its.toArray ++ its2.toArray = (its ++ its2).toArray := by simp
  refine concat_meets ⟨_, ho, rfl⟩ ⟨_, ho2, rfl⟩ noFill_list_add seq_list_add PySem.F.slot_list_add PySem.F.entry_list_add (PySem.F.args_list_add_2 _ _) (PyProof.Rows.list_addW l b its.toArray its2.toArray n n2 dd dd2 sl sl2 (by simp only [List.size_toArray]; omega)) ⟨ho, ho2, ?_⟩
  rw [e]
  exact ⟨.ref _, _, I.lnew (t' := s.toks) (r.append r2) (by rw [List.length_append]; omega), rfl, q _ I.fresh⟩
theorem op_addZ {K : PySem.W.Frag} (hK : X.K = K) : OpR X (binaryOp .Add) (rAddZ K) := by subst hK; exact OpR.or (OpR.or op_add op_add_str) op_catZ
def rMulZ : R2 := fun x y H Q => rI CMul (fun i j => .int (i * j)) x y H Q ∨ rRep x y H Q
theorem op_mulZ : OpR X (binaryOp .Mult) rMulZ := OpR.or op_mul op_rep
def rEqZ (K : PySem.W.Frag) : R2 := fun x y H Q => rEq x y H Q ∨ rEqD K x y H Q
def rNeZ (K : PySem.W.Frag) : R2 := fun x y H Q => rNe x y H Q ∨ rNeD K x y H Q
theorem op_eqZ {K : PySem.W.Frag} (hK : X.K = K) (hu : X.A.units + 64 < cLine) : OpR X (compareOp .Eq) (rEqZ K) := by subst hK; exact OpR.or op_eq (op_eqD hu)
theorem op_neZ {K : PySem.W.Frag} (hK : X.K = K) (hu : X.A.units + 64 < cLine) : OpR X (compareOp .NotEq) (rNeZ K) := by subst hK; exact OpR.or op_ne (op_neD hu)
end

/-! ## Further rules -/
section
variable {X : Cx}
/-- len of a text, a list, a tuple -/
def rLenZ (K : PySem.W.Frag) : List V → Hp → VK → Prop := fun xs H Q => ∃ x n, xs = [x] ∧ LenV K x H n ∧ Q (.int n) H
theorem call_lenZ {K : PySem.W.Frag} (hK : X.K = K) : CallR X (.builtin "len") (rLenZ K) := by subst hK; exact call_len
def rSlZ (K : PySem.W.Frag) : V → Option Int → Option Int → Hp → VK → Prop := fun x lo hi H Q => rSlL K x lo hi H Q ∨ rSlS x lo hi H Q
theorem sl_Z {K : PySem.W.Frag} (hK : X.K = K) : SlR X (rSlZ K) := by subst hK; exact SlR.or sl_list sl_str
theorem ix_seqZ {K : PySem.W.Frag} (hK : X.K = K) : IxR X (rIx K) := by subst hK; exact ix_seq
def tTruZ (K : PySem.W.Frag) (ta : TE) : TT := fun σ H Q => ta σ H fun x H' => ∃ k, TruV K x H' k ∧ Q k H'
theorem pt_truthZ {K : PySem.W.Frag} {a : Expr} {ta : TE} (hK : X.K = K) (ha : PE X a ta) (he : ∀ whole, isTrue a X.env whole = (do let v ← whole; standAt a.pos; holding [v] (truthy v))) : PT X a (tTruZ K ta) := by subst hK; exact pt_truth ha he
theorem call_isiZ {K : PySem.W.Frag} (hK : X.K = K) : CallR X (.builtin "isinstance") (rIsi K) := by subst hK; exact call_isi
def rListOf (K : PySem.W.Frag) : List V → Hp → VK → Prop := fun xs H Q => ∃ p ys, xs = [.ref p] ∧ (SqL K H p ys ∨ SqT K H p ys) ∧ ∀ l, H l = none → Q (.ref l) (upd H l (.lst ys))
theorem call_listZ {K : PySem.W.Frag} (hK : X.K = K) : CallR X (.type "list") (rListOf K) := by subst hK; exact call_list_of
theorem cr_sumZ {K : PySem.W.Frag} (hK : X.K = K) (hc : X.calm = true) : CallR X (.builtin "sum") (rSum K) := by subst hK; exact cr_sum hc
theorem cr_allZ {K : PySem.W.Frag} (hK : X.K = K) (hc : X.calm = true) : CallR X (.builtin "all") (rAll K) := by subst hK; exact cr_all hc
theorem cr_anyZ {K : PySem.W.Frag} (hK : X.K = K) (hc : X.calm = true) : CallR X (.builtin "any") (rAny K) := by subst hK; exact cr_any hc
theorem cr_maxZ {K : PySem.W.Frag} (hK : X.K = K) (hc : X.calm = true) : CallR X (.builtin "max") (rMax K) := by subst hK; exact cr_max hc
theorem cr_minZ {K : PySem.W.Frag} (hK : X.K = K) (hc : X.calm = true) : CallR X (.builtin "min") (rMin K) := by subst hK; exact cr_min hc
theorem pi_listZ {K : PySem.W.Frag} {tg l : Expr} {tl : TE} (hK : X.K = K) (hl : PE X l tl) : PI X tg l (iList K tl) := by subst hK; exact pi_list hl
theorem pi_tupZ {K : PySem.W.Frag} {tg l : Expr} {tl : TE} (hK : X.K = K) (hl : PE X l tl) : PI X tg l (iTup K tl) := by subst hK; exact pi_tup hl
theorem pi_enumZ {K : PySem.W.Frag} {e : Expr} {ta : TA} {p pos tpos : Pos} {elts : List Expr} {kk : Nat} (hK : X.K = K) (hg : Gl X "enumerate") (hm : X.mg "enumerate" = none) (ha : PA X [e] ta) (hs : starEach [e] X.env = [(false, eval e X.env)] := by rfl) :
    PI X (.Tuple elts kk tpos) (.Call (.Name "enumerate" p) [e] [] pos) (iEnum K ta) := by subst hK; exact pi_enum hg hm ha hs
theorem pi_zipZ {K : PySem.W.Frag} {e e2 : Expr} {ta : TA} {p pos tpos : Pos} {elts : List Expr} {kk : Nat} (hK : X.K = K) (hg : Gl X "zip") (hm : X.mg "zip" = none) (ha : PA X [e, e2] ta)
    (hs : starEach [e, e2] X.env = (false, eval e X.env) :: starEach [e2] X.env := by rfl) (hpl : (backTo pos (starEach [e2] X.env)).any (·.1) = false := by rfl) :
    PI X (.Tuple elts kk tpos) (.Call (.Name "zip" p) [e, e2] [] pos) (iZip K ta) := by subst hK; exact pi_zip hg hm ha hs hpl
theorem pe_fldZ {K : PySem.W.Frag} {e : Expr} {f : Str} {pos : Pos} {ta : TE} (hK : X.K = K) (he : PE X e ta) (hb : attributeBase e f X.env (eval e X.env) = eval e X.env) : PE X (.Attribute e f pos) (tFld K ta f) := by subst hK; exact pe_fld he hb
theorem pg_tupZ {K : PySem.W.Frag} {es : List Expr} {k : Nat} {t : TGs} {n : Nat} {pos : Pos} (hK : X.K = K) (hc : X.calm = true) (h : PGs X es t)
    (hn : (assignEach es X.env).length = n := by rfl) (hst : (assignEach es X.env).findIdx? (·.1) = none := by rfl) : PG X (.Tuple es k pos) (gTup K n t) := by subst hK; exact pg_tup hc h hn hst
theorem pe_bmZ {K : PySem.W.Frag} {o e : Expr} {es : List Expr} {to : TE} {t : TA} {name : Str} {apos cpos : Pos} {T id : String} {r : V → List V → Hp → VK → Prop} (hK : X.K = K) (pa : PlainAttrs T) (slot : Slot T name id) (hty : typeOf (.builtin id) = pure (.type "method_descriptor")) (hm : MtR X id r) (ho : PE X o to) (ha : PA X (e :: es) t)
    (hbase : attributeBase o name X.env (eval o X.env) = eval o X.env := by rfl)
    (hfew : ((backTo cpos (starEach (e :: es) X.env)).all (fun x => !x.1) && (backToKw cpos (keywordEach [] X.env)).all (fun x => x.1.isSome)
      && decide ((e :: es).length + ([] : List Keyword).length + (if ([] : List Keyword).isEmpty then 0 else 1) < 30)) = true := by rfl)
    (hline : (apos.endLine == cpos.line) = true := by rfl) (hs : starEach (e :: es) X.env = (false, eval e X.env) :: starEach es X.env := by rfl) (hplain : (backTo cpos (starEach es X.env)).any (·.1) = false := by rfl) :
    PE X (.Call (.Attribute o name apos) (e :: es) [] cpos) (tBM K T r to t) := by subst hK; exact pe_bm pa slot hty hm ho ha hbase hfew hline hs hplain
theorem pe_bm0Z {K : PySem.W.Frag} {o : Expr} {to : TE} {name : Str} {apos cpos : Pos} {T id : String} {r : V → List V → Hp → VK → Prop} (hK : X.K = K) (pa : PlainAttrs T) (slot : Slot T name id) (hty : typeOf (.builtin id) = pure (.type "method_descriptor")) (hm : MtR X id r) (ho : PE X o to)
    (hbase : attributeBase o name X.env (eval o X.env) = eval o X.env := by rfl) (hline : (apos.endLine == cpos.line) = true := by rfl) : PE X (.Call (.Attribute o name apos) [] [] cpos) (tBM0 K T r to) := by subst hK; exact pe_bm0 pa slot hty hm ho hbase hline
def tCallZ (sp : Sp) (E : XK) (t : TA) : TE := fun σ H Q => t σ H fun vs H1 => sp vs H1 Q E
variable {CX : CXT} {k : Nat} {f C : Addr} {fd : FuncData} {ps : List Str} {sp : Sp} {E : XK} {x m : Str} {p pos apos : Pos} {e o : Expr} {es : List Expr} {ta : TE} {t : TA}
theorem callZ_eq : tCall sp [] E t = tCallZ sp E t := by
  funext σ H Q
  show t σ H (fun vs H1 => sp (vs ++ []) H1 Q E) = t σ H fun vs H1 => sp vs H1 Q E
  simp only [List.append_nil]
theorem pe_callZ (F : FnOk X.prog X.w X.K X.mg X.base CX k f fd ps sp) (hr : Room k X.A) (hg : Gl X x) (hm : X.mg x = some (.ref f)) (hk : PySem.W.keepIn X.K (.ref f) = true) (hb : Binds X.K fd ps []) (hx : Passes CX X E)
    (ha : PA X (e :: es) t) (hdb : (x == ("__debug__" : Str)) = false := by decide) (he : starEach (e :: es) X.env = (false, eval e X.env) :: starEach es X.env := by rfl) (hpl : (backTo pos (starEach es X.env)).any (·.1) = false := by rfl) :
    PE X (.Call (.Name x p) (e :: es) [] pos) (tCallZ sp E t) := by
  rw [← callZ_eq]
  exact pe_call F hr hg hm hk hb .nil hx ha hdb he hpl
theorem pe_call0Z (F : FnOk X.prog X.w X.K X.mg X.base CX k f fd ps sp) (hr : Room k X.A) (hg : Gl X x) (hm : X.mg x = some (.ref f)) (hk : PySem.W.keepIn X.K (.ref f) = true) (hb : Binds X.K fd ps []) (hx : Passes CX X E)
    (hdb : (x == ("__debug__" : Str)) = false := by decide) : PE X (.Call (.Name x p) [] [] pos) (tCallZ sp E tNil) := by
  rw [← callZ_eq]
  exact pe_call0 F hr hg hm hk hb .nil hx hdb
end
/-! ## Steps: what a reading asks, one construct at a time -/
section
variable {K : PySem.W.Frag} {σ : St} {H : Hp} {nx bk ct : St → Hp → Prop} {rt : VK} {t u : TS} {te ta tb tc : TE} {tt uu : TT} {Q : VK} {QB : Bool → Hp → Prop} {QA : List V → Hp → Prop} {QO : Option Int → Hp → Prop} {v : V} {i : Nat} {b : Bool} {tr : TA}
theorem z_seq (h : t ⟨fun σ H => u ⟨nx, rt, bk, ct⟩ σ H, rt, bk, ct⟩ σ H) : tSeq t u ⟨nx, rt, bk, ct⟩ σ H := h
theorem z_asg (h : te σ H fun x H1 => nx (σ.set i (some x)) H1) : tAsg te (gName i) ⟨nx, rt, bk, ct⟩ σ H := h
theorem z_asgS {to ti : TE} {ts : TSet} (h : te σ H fun x H1 => to σ H1 fun o H2 => ti σ H2 fun j H3 => ts o j x H3 fun H4 => nx σ H4) : tAsg te (gSub to ti ts) ⟨nx, rt, bk, ct⟩ σ H := h
theorem z_asgT {n : Nat} {g : TGs} (h : te σ H fun x H1 => gTup K n g x σ H1 nx) : tAsg te (gTup K n g) ⟨nx, rt, bk, ct⟩ σ H := h
theorem z_drop (h : te σ H fun _ H1 => nx σ H1) : tDrop te ⟨nx, rt, bk, ct⟩ σ H := h
theorem z_ret (h : te σ H fun v H1 => rt v H1) : tRet te ⟨nx, rt, bk, ct⟩ σ H := h
theorem z_retN (h : rt .non H) : tRetN ⟨nx, rt, bk, ct⟩ σ H := h
theorem z_next (h : nx σ H) : tNext ⟨nx, rt, bk, ct⟩ σ H := h
theorem z_brk (h : bk σ H) : tBreak ⟨nx, rt, bk, ct⟩ σ H := h
theorem z_cont (h : ct σ H) : tCont ⟨nx, rt, bk, ct⟩ σ H := h
theorem z_ifS (h : tt σ H fun b H1 => if b = true then t ⟨nx, rt, bk, ct⟩ σ H1 else u ⟨nx, rt, bk, ct⟩ σ H1) : tIfS tt t u ⟨nx, rt, bk, ct⟩ σ H := h
theorem z_sgc (h : t ⟨fun σ' H' => ∃ G, Gc H H' G ∧ nx σ' G, fun v H' => ∃ G, Gc H H' G ∧ rt v G, fun σ' H' => ∃ G, Gc H H' G ∧ bk σ' G, fun σ' H' => ∃ G, Gc H H' G ∧ ct σ' G⟩ σ H) : sGc t ⟨nx, rt, bk, ct⟩ σ H := h
theorem z_aug {x : V} {ti : TIp} (e : σ[i]? = some (some x)) (h : te σ H fun y H1 => ti x y H1 fun z H2 => nx (σ.set i (some z)) H2) : tAug i te ti ⟨nx, rt, bk, ct⟩ σ H := ⟨x, e, h⟩
theorem z_ipI {f : Int → Int → Int} {i j : Int} (h : Q (.int (f i j)) H) : ipI f (.int i) (.int j) H Q := ⟨i, j, rfl, rfl, h⟩
theorem z_tgc (h : te σ H fun v H' => ∃ G, Gc H H' G ∧ Q v G) : tGc te σ H Q := h
theorem z_ugc (h : tt σ H fun v H' => ∃ G, Gc H H' G ∧ QB v G) : uGc tt σ H QB := h
theorem z_var (e : σ[i]? = some (some v)) (h : Q v H) : tVar i σ H Q := ⟨v, e, h⟩
theorem z_c (h : Q v H) : tC v σ H Q := h
theorem z_op {r : R2} (h : ta σ H fun x H1 => tb σ H1 fun y H2 => r x y H2 Q) : tOp r ta tb σ H Q := h
theorem z_un {r : V → Hp → VK → Prop} (h : ta σ H fun x H1 => r x H1 Q) : tUn r ta σ H Q := h
theorem z_rU {g : Int → V} {i : Int} (h : Q (g i) H) : rU g (.int i) H Q := ⟨i, rfl, h⟩
theorem z_cb {r : List V → Hp → VK → Prop} (h : tr σ H fun vs H1 => r vs H1 Q) : tCB r tr σ H Q := h
theorem z_call {sp : Sp} {E : XK} (h : tr σ H fun vs H1 => sp vs H1 Q E) : tCallZ sp E tr σ H Q := h
theorem z_nil (h : QA [] H) : tNil σ H QA := h
theorem z_cons (h : ta σ H fun x H1 => tr σ H1 fun xs H2 => QA (x :: xs) H2) : tCons ta tr σ H QA := h
theorem z_tst (h : te σ H fun x H' => ∃ k, x = .bl k ∧ QB k H') : tTest te σ H QB := h
theorem z_tB (h : te σ H fun x H' => ∃ k, x = .bl k ∧ QB k H') : tB te σ H QB := h
theorem z_bl {Qb : Bool → Prop} (h : Qb b) : ∃ k, V.bl b = .bl k ∧ Qb k := ⟨b, rfl, h⟩
theorem z_and (h : tt σ H fun c H1 => if c = true then uu σ H1 QB else QB false H1) : tAnd tt uu σ H QB := h
theorem z_or (h : tt σ H fun c H1 => if c = true then QB true H1 else uu σ H1 QB) : tOr tt uu σ H QB := h
theorem z_not (h : tt σ H fun c H1 => QB (!c) H1) : tNot tt σ H QB := h
theorem z_andV (h : ta σ H fun x H1 => ∃ c, x = .bl c ∧ if c = true then tb σ H1 Q else Q (.bl false) H1) : tAndV ta tb σ H Q := h
theorem z_orV (h : ta σ H fun x H1 => ∃ c, x = .bl c ∧ if c = true then Q (.bl true) H1 else tb σ H1 Q) : tOrV ta tb σ H Q := h
theorem z_notV (h : ta σ H fun x H1 => ∃ c, x = .bl c ∧ Q (.bl (!c)) H1) : tNotV ta σ H Q := h
theorem z_ifE (h : tt σ H fun c H1 => if c = true then ta σ H1 Q else tb σ H1 Q) : tIf tt ta tb σ H Q := h
theorem z_chain {r r' : R2} (h : ta σ H fun x H1 => tb σ H1 fun y H2 => r x y H2 fun z H3 => ∃ k, z = .bl k ∧ (if k = true then tc σ H3 fun w' H4 => r' y w' H4 Q else Q (.bl false) H3)) : tChain r r' ta tb tc σ H Q := h
theorem z_truZ (h : ta σ H fun x H' => ∃ k, TruV K x H' k ∧ QB k H') : tTruZ K ta σ H QB := h
theorem z_truB {Qb : Bool → Prop} (h : Qb b) : ∃ k, TruV K (.bl b) H k ∧ Qb k := ⟨b, rfl, h⟩
theorem z_truI {Qb : Bool → Prop} {i : Int} (h : Qb (!decide (i = 0))) : ∃ k, TruV K (.int i) H k ∧ Qb k := ⟨i != 0, rfl, by
  have e : (i != 0) = !decide (i = 0) := by
    by_cases q : i = 0
    · simp [q]
    · simp [q]
  rw [e]
  exact h⟩
theorem z_lst (h : tr σ H fun xs H1 => xs.length ≤ sizeLine ∧ ∀ p, H1 p = none → Q (.ref p) (upd H1 p (.lst xs))) : tLst tr σ H Q := h
theorem z_tup (h : tr σ H fun xs H1 => xs.length ≤ sizeLine ∧ ∀ p, H1 p = none → Q (.ref p) (upd H1 p (.tup xs))) : tTup tr σ H Q := h
theorem z_sl {r : V → Option Int → Option Int → Hp → VK → Prop} {tl th : TO} (h : te σ H fun x H1 => tl σ H1 fun l H2 => th σ H2 fun u H3 => r x l u H3 Q) : tSl r te tl th σ H Q := h
theorem z_nopart (h : QO none H) : tNoPart σ H QO := h
theorem z_part (h : te σ H fun x H1 => ∃ i, x = .int i ∧ QO (some i) H1) : tPart te σ H QO := h
theorem z_int {Qi : Int → Prop} {i : Int} (h : Qi i) : ∃ j, V.int i = .int j ∧ Qi j := ⟨i, rfl, h⟩
/-! ### operators -/
theorem z_I0 {g : Int → Int → V} {i j : Int} (h : Q (g i j) H) : rI0 g (.int i) (.int j) H Q := ⟨i, j, rfl, rfl, h⟩
theorem z_I {C : Int → Int → Prop} {g : Int → Int → V} {i j : Int} (c : C i j) (h : Q (g i j) H) : rI C g (.int i) (.int j) H Q := ⟨i, j, rfl, rfl, c, h⟩
theorem z_addI {i j : Int} (h : Q (.int (i + j)) H) : rAddZ K (.int i) (.int j) H Q := .inl (.inl ⟨i, j, rfl, rfl, h⟩)
theorem z_addS {x y : Str} (c : x.length + y.length ≤ sizeLine) (h : Q (.str (x ++ y)) H) : rAddZ K (.str x) (.str y) H Q := .inl (.inr ⟨x, y, rfl, rfl, c, h⟩)
theorem z_cat {a c : Addr} {xs zs : List V} (ha : SqL K H a xs) (hc : SqL K H c zs) (z : xs.length + zs.length ≤ sizeLine) (h : ∀ p, H p = none → Q (.ref p) (upd H p (.lst (xs ++ zs)))) : rAddZ K (.ref a) (.ref c) H Q :=
  .inr ⟨a, c, xs, zs, rfl, rfl, ha, hc, z, h⟩
theorem z_mulI {i j : Int} (c : CMul i j) (h : Q (.int (i * j)) H) : rMulZ (.int i) (.int j) H Q := .inl ⟨i, j, rfl, rfl, c, h⟩
theorem z_rep {a : Addr} {xs : List V} {k : Int} (ha : H a = some (.lst xs)) (h1 : -(2 ^ 63) ≤ k) (h2 : k < 2 ^ 63) (z : xs.length * k.toNat ≤ sizeLine) (h : ∀ p, H p = none → Q (.ref p) (upd H p (.lst (List.replicate k.toNat xs).flatten))) : rMulZ (.ref a) (.int k) H Q :=
  .inr ⟨a, k, xs, rfl, rfl, ha, h1, h2, z, h⟩
theorem z_eqI {i j : Int} (h : Q (.bl (decide (i = j))) H) : rEqZ K (.int i) (.int j) H Q := .inl ⟨rfl, by
  have e : decide (V.int i = V.int j) = decide (i = j) := by simp
  rw [e]; exact h⟩
theorem z_neI {i j : Int} (h : Q (.bl (!decide (i = j))) H) : rNeZ K (.int i) (.int j) H Q := .inl ⟨rfl, by
  have e : decide (V.int i = V.int j) = decide (i = j) := by simp
  rw [e]; exact h⟩
theorem z_eqS {x y : Str} (h : Q (.bl (decide (x = y))) H) : rEqZ K (.str x) (.str y) H Q := .inl ⟨rfl, by
  have e : decide (V.str x = V.str y) = decide (x = y) := by simp
  rw [e]; exact h⟩
theorem z_neS {x y : Str} (h : Q (.bl (!decide (x = y))) H) : rNeZ K (.str x) (.str y) H Q := .inl ⟨rfl, by
  have e : decide (V.str x = V.str y) = decide (x = y) := by simp
  rw [e]; exact h⟩
/-! ### tests that are open -/
theorem z_if {p A B : Prop} [Decidable p] (h1 : p → A) (h2 : ¬ p → B) : if decide p = true then A else B := by
  by_cases h : p
  · rw [if_pos (decide_eq_true h)]; exact h1 h
  · rw [if_neg (by rw [decide_eq_false h]; exact Bool.false_ne_true)]; exact h2 h
theorem z_ifn {p A B : Prop} [Decidable p] (h1 : ¬ p → A) (h2 : p → B) : if (!decide p) = true then A else B := by
  by_cases h : p
  · rw [if_neg (by rw [decide_eq_true h]; exact Bool.false_ne_true)]; exact h2 h
  · rw [if_pos (by rw [decide_eq_false h]; rfl)]; exact h1 h
theorem z_nn (h : Q (.bl b) H) : Q (.bl (!!b)) H := by rw [Bool.not_not]; exact h
theorem z_iT {A B : Prop} (h : A) : if true = true then A else B := by rw [if_pos rfl]; exact h
theorem z_iF {A B : Prop} (h : B) : if false = true then A else B := by rw [if_neg Bool.false_ne_true]; exact h
theorem z_inF {A B : Prop} (h : A) : if (!false) = true then A else B := h
theorem z_inT {A B : Prop} (h : B) : if (!true) = true then A else B := by
  rw [if_neg (by decide)]; exact h
/-! ### lists that are read -/
theorem at_int {ns : List Int} {i : Int} (h0 : 0 ≤ i) (h1 : i < ns.length) : atI (ns.map V.int) i = some (.int (ns.getD i.toNat 0)) := by
  obtain ⟨n, rfl⟩ : ∃ n : Nat, i = (n : Int) := ⟨i.toNat, (Int.toNat_of_nonneg h0).symm⟩
  have hl : n < ns.length := by omega
  rw [Int.toNat_natCast]
  refine atI_nat ?_
  rw [List.getElem?_map, List.getElem?_eq_getElem hl]
  simp [List.getD, hl]
theorem z_ixL {a : Addr} {xs : List V} {i : Int} (ha : SqL K H a xs) (hi : atI xs i = some v) (h : Q v H) : rIx K (.ref a) (.int i) H Q := .inl ⟨a, xs, i, v, rfl, rfl, ha, hi, h⟩
theorem z_ixT {a : Addr} {xs : List V} {i : Int} (ha : SqT K H a xs) (hi : atI xs i = some v) (h : Q v H) : rIx K (.ref a) (.int i) H Q := .inr (.inl ⟨a, xs, i, v, rfl, rfl, ha, hi, h⟩)
theorem z_ixI {a : Addr} {ns : List Int} {i : Int} (ha : SqL K H a (ns.map V.int)) (h0 : 0 ≤ i) (h1 : i < ns.length) (h : Q (.int (ns.getD i.toNat 0)) H) : rIx K (.ref a) (.int i) H Q := z_ixL ha (at_int h0 h1) h
theorem z_setI {a : Addr} {ns : List Int} {i w : Int} {R : Hp → Prop} (ha : H a = some (.lst (ns.map V.int))) (h0 : 0 ≤ i) (h1 : i < ns.length) (h : R (upd H a (.lst ((ns.set i.toNat w).map V.int)))) : rSetL (.ref a) (.int i) (.int w) H R :=
  ⟨a, _, i, i.toNat, rfl, rfl, ha, by unfold ixN; rw [if_pos h0, List.length_map, if_pos h1], by rw [← List.map_set]; exact h⟩
theorem z_lenL {a : Addr} {xs : List V} (ha : SqL K H a xs) (h : Q (.int (xs.length : Int)) H) : rLenZ K [.ref a] H Q := ⟨_, xs.length, rfl, .inl ⟨xs, ha, rfl⟩, h⟩
theorem z_lenI {a : Addr} {ns : List Int} (ha : SqL K H a (ns.map V.int)) (h : Q (.int (ns.length : Int)) H) : rLenZ K [.ref a] H Q := z_lenL ha (by rw [List.length_map]; exact h)
theorem z_slL {a : Addr} {xs : List V} {lo hi : Option Int} (ha : SqL K H a xs) (h : ∀ p, H p = none → Q (.ref p) (upd H p (.lst (cutV xs lo hi)))) : rSlZ K (.ref a) lo hi H Q := .inl ⟨a, xs, rfl, ha, h⟩
theorem z_slS {x : Str} {lo hi : Option Int} (c : x.length ≤ sizeLine) (h : Q (.str (cutS x lo hi)) H) : rSlZ K (.str x) lo hi H Q := .inr ⟨x, rfl, c, h⟩
theorem sq_up {a p : Addr} {o : HO} {xs : List V} (hp : H p = none) (h : SqL K H a xs) : SqL K (upd H p o) a xs := (same_up (fun _ _ e => e) hp : Same H (upd H p o)).seq h
end

theorem cx_K {CX : CXT} {P : Program} {w : World} {K : PySem.W.Frag} {mg : Str → Option Value} {base : Heap} {N : List Str} {qual : Str} {scope : Scope} {f : Addr} {cd : Value} {A : Around} {outer : List Env} {s : Shared} {H : Hp} {E : XK} :
    (cxOf CX P w K mg base N qual scope f cd A outer s H E).K = K := rfl

/-! ## Loops, what a turn made and dropped forgotten at its end -/
structure Rt (X : Cx) (H : Hp) : Prop where
  keep : ∀ b o, X.H_0 b = some o → kept o = true → ∃ u, H b = some u ∧ kept u = true ∧ (∀ xs, o = .tup xs → u = o) ∧ (∀ ob u', o = .frz ob u' → u = o) ∧ ∀ ps, o = .tbl ps → ∃ more, u = .tbl (ps ++ more)
  cl : ∀ a o (G : Hp), H a = some o → (∀ b, H b = some (.own a) → G b = some (.own a)) → okA G a o
section
variable {X : Cx}
theorem Rt.of {pins : List (Addr × Obj)} {σ : List (Option V)} {H : Hp} {s : Shared} (I : Inv X pins σ H s) : Rt X H where
  keep := fun b o e k => by
    cases o with
    | tup xs => exact ⟨_, I.base.tups b xs e, rfl, fun _ _ => rfl, fun _ _ _ => rfl, fun _ q => nomatch q⟩
    | frz ob u => exact ⟨_, I.base.frzs b ob u e, rfl, fun _ _ => rfl, fun _ _ _ => rfl, fun _ q => nomatch q⟩
    | tbl ps =>
      obtain ⟨more, q⟩ := I.base.tbls b ps e
      exact ⟨_, q, rfl, fun _ z => (nomatch z), fun _ _ z => (nomatch z), fun _ z => by cases z; exact ⟨more, rfl⟩⟩
    | _ => cases k
  cl := fun a o G e k => okA_of (I.hok a o e) k
theorem inv_gcR {pins : List (Addr × Obj)} {σ : List (Option V)} {H H' G : Hp} {s : Shared} (R : Rt X H) (J : Inv X pins σ H' s) (g : Gc H H' G) : Inv X pins σ G s where
  ok := J.ok
  os := J.os
  bare := J.bare
  base :=
    { keep := J.base.keep
      slot := J.base.slot
      free := fun b o q n hx => none_sub g (J.base.free b o q n hx)
      there := J.base.there
      tups := fun b xs q => by
        obtain ⟨u, e, k, h1, _, _⟩ := R.keep b _ q rfl
        rw [h1 _ rfl] at e k
        exact g.keep b _ e k
      frzs := fun b o u q => by
        obtain ⟨u', e, k, _, h1, _⟩ := R.keep b _ q rfl
        rw [h1 _ _ rfl] at e k
        exact g.keep b _ e k
      tbls := fun b ps q => by
        obtain ⟨u', e, k, _, _, h1⟩ := R.keep b _ q rfl
        obtain ⟨more, rfl⟩ := h1 _ rfl
        exact ⟨more, g.keep b _ e k⟩ }
  loc := J.loc
  cell := J.cell
  free := none_sub g J.free
  freeC := fun x c e => none_sub g (J.freeC x c e)
  pin := fun p hp => ⟨(J.pin p hp).1, none_sub g (J.pin p hp).2.1, (J.pin p hp).2.2⟩
  hok := fun a o e => by
    have x : ObjOk X.prog X.w H' s.heap a o := J.hok a o (g.sub a o e)
    refine obj_sub x ?_ ?_
    · rcases g.ok a o e with k | ⟨q, k⟩
      · exact k
      · exact R.cl a o G q k
    · rcases g.dt with d | d
      · exact .inl (d a o e)
      · exact .inr d
  len := J.len
/-- a block whose leavings are forgotten as from the heap H0 -/
def sGcE (H0 : Hp) (t : TS) : TS := fun D σ H => t ⟨fun σ' H' => ∃ G, Gc H0 H' G ∧ D.nx σ' G, fun v H' => ∃ G, Gc H0 H' G ∧ D.rt v G, fun σ' H' => ∃ G, Gc H0 H' G ∧ D.bk σ' G, fun σ' H' => ∃ G, Gc H0 H' G ∧ D.ct σ' G⟩ σ H
theorem pss_gcE {H0 : Hp} (R : Rt X H0) {st : List Stmt} {t : TS} (h : PSs X st t) : PSs X st (sGcE H0 t) := ⟨fun pins s σ H D I q => thn (h.run pins s σ H _ I q) fun f s1 q1 => by
  cases f with
  | next =>
    obtain ⟨σ1, H1, I1, G, g, q1⟩ := q1
    exact ⟨σ1, G, inv_gcR R I1 g, q1⟩
  | brk =>
    obtain ⟨σ1, H1, I1, G, g, q1⟩ := q1
    exact ⟨σ1, G, inv_gcR R I1 g, q1⟩
  | cont =>
    obtain ⟨σ1, H1, I1, G, g, q1⟩ := q1
    exact ⟨σ1, G, inv_gcR R I1 g, q1⟩
  | ret u =>
    obtain ⟨v, σ1, H1, I1, r, G, g, q1⟩ := q1
    exact ⟨v, σ1, G, inv_gcR R I1 g, r, q1⟩⟩
def ForZ (J : It) (g : TG) (tb : TS) : TS := fun D σ H => ∃ W : Nat → Nat → St → Hp → Prop, (∃ m, W 0 m σ H) ∧ ∀ i m σ H, W i m σ H →
  (J.stop i H ∧ D.nx σ H) ∨ (J.go i H ∧ ∃ N : St → Hp → Prop, (∀ σ' H', N σ' H' → ∃ m', m' < m ∧ W (i + 1) m' σ' H') ∧ ∀ x H', J.yld i H x H' → g x σ H' fun σ2 H2 => tb { D with nx := N, ct := N, bk := D.nx } σ2 H2)
def tForZ (wi : TI) (g : TG) (tb : TS) : TS := fun D σ H => wi σ H fun J H1 => ForZ J g (sGcE H tb) D σ H1
theorem ps_forZ {tg iter : Expr} {body : List Stmt} {wi : TI} {g : TG} {tb : TS} {pos : Pos} (hp : PassesOwn (model X.prog X.w) X.A X.env X.xe) (hc : X.calm = true) (hi : PI X tg iter wi) (hg : PG X tg g) (hb : PSs X body tb)
    (hs : ∀ x, foldedSetIterable iter X.env x = pure x := by intro _; rfl) : PS X (.For tg iter body [] pos) (tForZ wi g tb) :=
  ⟨fun pins s σ H D I h => (ps_for hp hc hi hg (pss_gcE (Rt.of I) hb) hs).run pins s σ H D I h⟩
def tWhileZ (c : TT) (tb : TS) : TS := fun D σ H => tWhile c (sGcE H tb) D σ H
theorem ps_whileZ {c : Expr} {body : List Stmt} {tc : TT} {tb : TS} {pos : Pos} (hp : PassesOwn (model X.prog X.w) X.A X.env X.xe) (hc : PT X c tc) (hb : PSs X body tb) : PS X (.While c body [] pos) (tWhileZ tc tb) :=
  ⟨fun pins s σ H D I h => (ps_while hp hc (pss_gcE (Rt.of I) hb)).run pins s σ H D I h⟩
end
section
variable {K : PySem.W.Frag} {σ : St} {H H0 : Hp} {nx bk ct : St → Hp → Prop} {rt : VK} {tb : TS} {g : TG} {a : Addr} {xs : List V} {tr : TA} {te : TE}
theorem z_forR1 (h : tr σ H fun vs H1 => ∃ n : Int, vs = [.int n] ∧ -(2 ^ 62) ≤ n ∧ n < 2 ^ 62 ∧ ForZ (Itr 0 n.toNat) g (sGcE H tb) ⟨nx, rt, bk, ct⟩ σ H1) : tForZ (iRng1 tr) g tb ⟨nx, rt, bk, ct⟩ σ H := h
theorem z_forR2 (h : tr σ H fun vs H1 => ∃ i j : Int, vs = [.int i, .int j] ∧ (-(2 ^ 62) ≤ i ∧ i < 2 ^ 62 ∧ -(2 ^ 62) ≤ j ∧ j < 2 ^ 62) ∧ ForZ (Itr i (j - i).toNat) g (sGcE H tb) ⟨nx, rt, bk, ct⟩ σ H1) : tForZ (iRng2 tr) g tb ⟨nx, rt, bk, ct⟩ σ H := h
theorem z_forL (h : te σ H fun x H1 => ∃ a, x = .ref a ∧ (∃ xs, SqL K H1 a xs) ∧ ForZ (Itl K a) g (sGcE H tb) ⟨nx, rt, bk, ct⟩ σ H1) : tForZ (iList K te) g tb ⟨nx, rt, bk, ct⟩ σ H := h
theorem z_forT (h : te σ H fun x H1 => ∃ a, x = .ref a ∧ (∃ xs, SqT K H1 a xs) ∧ ForZ (Itt K a) g (sGcE H tb) ⟨nx, rt, bk, ct⟩ σ H1) : tForZ (iTup K te) g tb ⟨nx, rt, bk, ct⟩ σ H := h
theorem z_forE (h : tr σ H fun vs H1 => ∃ a xs, vs = [.ref a] ∧ SqL K H1 a xs ∧ ForZ (Ite K a) g (sGcE H tb) ⟨nx, rt, bk, ct⟩ σ H1) : tForZ (iEnum K tr) g tb ⟨nx, rt, bk, ct⟩ σ H := h
theorem z_rn1 {R : Int → Prop} {n : Int} (h0 : -(2 ^ 62) ≤ n) (h1 : n < 2 ^ 62) (h : R n) : ∃ m : Int, [V.int n] = [V.int m] ∧ -(2 ^ 62) ≤ m ∧ m < 2 ^ 62 ∧ R m := ⟨n, rfl, h0, h1, h⟩
theorem z_rn2 {R : Int → Int → Prop} {m n : Int} (h0 : -(2 ^ 62) ≤ m ∧ m < 2 ^ 62 ∧ -(2 ^ 62) ≤ n ∧ n < 2 ^ 62) (h : R m n) : ∃ i j : Int, [V.int m, V.int n] = [V.int i, V.int j] ∧ (-(2 ^ 62) ≤ i ∧ i < 2 ^ 62 ∧ -(2 ^ 62) ≤ j ∧ j < 2 ^ 62) ∧ R i j := ⟨m, n, rfl, h0, h⟩
/-- over a range, by what holds between the turns -/
theorem f_range {lo : Int} {n : Nat} (Pv : Nat → St → Hp → Prop) (h0 : Pv 0 σ H)
    (hs : ∀ i σ H, i < n → Pv i σ H → g (.int (lo + i)) σ H fun σ2 H2 => tb ⟨fun σ' H' => ∃ G, Gc H0 H' G ∧ Pv (i + 1) σ' G, fun v H' => ∃ G, Gc H0 H' G ∧ rt v G, fun σ' H' => ∃ G, Gc H0 H' G ∧ nx σ' G, fun σ' H' => ∃ G, Gc H0 H' G ∧ Pv (i + 1) σ' G⟩ σ2 H2) (hd : ∀ σ H, Pv n σ H → nx σ H) :
    ForZ (Itr lo n) g (sGcE H0 tb) ⟨nx, rt, bk, ct⟩ σ H := for_range (D := ⟨nx, rt, bk, ct⟩) (tb := sGcE H0 tb) Pv h0 hs hd
theorem f_list (Pv : Nat → St → Hp → Prop) (h0 : Pv 0 σ H) (hl : ∀ i σ H, i ≤ xs.length → Pv i σ H → SqL K H a xs)
    (hs : ∀ i x σ H, xs[i]? = some x → Pv i σ H → g x σ H fun σ2 H2 => tb ⟨fun σ' H' => ∃ G, Gc H0 H' G ∧ Pv (i + 1) σ' G, fun v H' => ∃ G, Gc H0 H' G ∧ rt v G, fun σ' H' => ∃ G, Gc H0 H' G ∧ nx σ' G, fun σ' H' => ∃ G, Gc H0 H' G ∧ Pv (i + 1) σ' G⟩ σ2 H2) (hd : ∀ σ H, Pv xs.length σ H → nx σ H) :
    ForZ (Itl K a) g (sGcE H0 tb) ⟨nx, rt, bk, ct⟩ σ H := for_list (D := ⟨nx, rt, bk, ct⟩) (tb := sGcE H0 tb) Pv h0 hl hs hd
theorem f_tup (Pv : Nat → St → Hp → Prop) (h0 : Pv 0 σ H) (hl : ∀ i σ H, i ≤ xs.length → Pv i σ H → SqT K H a xs)
    (hs : ∀ i x σ H, xs[i]? = some x → Pv i σ H → g x σ H fun σ2 H2 => tb ⟨fun σ' H' => ∃ G, Gc H0 H' G ∧ Pv (i + 1) σ' G, fun v H' => ∃ G, Gc H0 H' G ∧ rt v G, fun σ' H' => ∃ G, Gc H0 H' G ∧ nx σ' G, fun σ' H' => ∃ G, Gc H0 H' G ∧ Pv (i + 1) σ' G⟩ σ2 H2) (hd : ∀ σ H, Pv xs.length σ H → nx σ H) :
    ForZ (Itt K a) g (sGcE H0 tb) ⟨nx, rt, bk, ct⟩ σ H := for_tup (D := ⟨nx, rt, bk, ct⟩) (tb := sGcE H0 tb) Pv h0 hl hs hd
/-- over a list of whole numbers -/
theorem f_ints {ns : List Int} (Pv : Nat → St → Hp → Prop) (h0 : Pv 0 σ H) (hl : ∀ i σ H, i ≤ ns.length → Pv i σ H → SqL K H a (ns.map V.int))
    (hs : ∀ (i : Nat) (n : Int) σ H, ns[i]? = some n → Pv i σ H → g (.int n) σ H fun σ2 H2 => tb ⟨fun σ' H' => ∃ G, Gc H0 H' G ∧ Pv (i + 1) σ' G, fun v H' => ∃ G, Gc H0 H' G ∧ rt v G, fun σ' H' => ∃ G, Gc H0 H' G ∧ nx σ' G, fun σ' H' => ∃ G, Gc H0 H' G ∧ Pv (i + 1) σ' G⟩ σ2 H2) (hd : ∀ σ H, Pv ns.length σ H → nx σ H) :
    ForZ (Itl K a) g (sGcE H0 tb) ⟨nx, rt, bk, ct⟩ σ H :=
  f_list (xs := ns.map V.int) Pv h0 (fun i σ H hi => hl i σ H (by rw [List.length_map] at hi; exact hi)) (fun i x σ H hx p => by
    rw [List.getElem?_map] at hx
    cases e : ns[i]? with
    | none => rw [e] at hx; cases hx
    | some n => rw [e] at hx; cases hx; exact hs i n σ H e p) (fun σ H p => hd σ H (by rw [List.length_map] at p; exact p))
theorem z_gn {i : Nat} {v : V} {Q : St → Hp → Prop} (h : Q (σ.set i (some v)) H) : gName i v σ H Q := h
/-! ### forgetting nothing -/
def Mu (H : Hp) (p : Addr) : Prop := ∀ o, H p = some o → kept o = false ∧ ∀ a, o ≠ .own a
theorem mu_none {p : Addr} (h : H p = none) : Mu H p := fun o e => by rw [h] at e; cases e
theorem mu_lst {p : Addr} {ys : List V} (h : H p = some (.lst ys)) : Mu H p := fun o e => by rw [h] at e; cases e; exact ⟨rfl, fun _ q => nomatch q⟩
theorem mu_dK {p : Addr} {ys : List (Key × V)} (h : H p = some (.dK ys)) : Mu H p := fun o e => by rw [h] at e; cases e; exact ⟨rfl, fun _ q => nomatch q⟩
theorem mu_ins {p C dx : Addr} {ys : List (Str × V)} (h : H p = some (.ins C dx ys)) : Mu H p := fun o e => by rw [h] at e; cases e; exact ⟨rfl, fun _ q => nomatch q⟩
theorem mu_atL {p : Addr} {ys : List V} : Mu (upd H p (.lst ys)) p := mu_lst upd_same
theorem mu_atD {p : Addr} {ys : List (Key × V)} : Mu (upd H p (.dK ys)) p := mu_dK upd_same
theorem mu_up {p q : Addr} {o : HO} (h : Mu H p) (e : p ≠ q) : Mu (upd H q o) p := fun u z => by rw [upd_ne e] at z; exact h u z
theorem gc_refl : Gc H H H := ⟨fun _ _ e => e, fun a o e => .inr ⟨e, fun _ q => q⟩, fun _ _ e _ => e, .inr fun _ _ e => e⟩
theorem gc_up {H' : Hp} {p : Addr} {o : HO} (g : Gc H H' H') (m : Mu H p) (m' : Mu H' p) (f : flatO o = true := by rfl) : Gc H (upd H' p o) (upd H' p o) where
  sub := fun _ _ e => e
  ok := fun a u h => by
    by_cases q : a = p
    · subst q; rw [upd_same] at h; cases h; exact .inl (okA_flat f)
    · rw [upd_ne q] at h
      rcases g.ok a u h with k | ⟨k1, k2⟩
      · refine .inl ?_
        clear h
        induction u with
        | ins C dx fs =>
          show upd H' p o dx = _
          have z : dx ≠ p := fun z => by subst z; exact (m' _ k).2 _ rfl
          rw [upd_ne z]; exact k
        | frz ob u ih => exact ih k
        | _ => trivial
      · refine .inr ⟨k1, fun b hb => ?_⟩
        have z : b ≠ p := fun z => by subst z; exact (m _ hb).2 _ rfl
        rw [upd_ne z]
        exact k2 b hb
  keep := fun b u h k => by
    have z : b ≠ p := fun z => by subst z; rw [(m _ h).1] at k; cases k
    rw [upd_ne z]
    exact g.keep b u h k
  dt := .inr fun _ _ e => e
end

/-! ## Comprehensions -/
def LcZ (J : It) (g : TG) (tt : TT) (te : TE) (vs : List Nat) : TE := fun σ H1 Q => ∀ D, H1 D = none → ∃ W : Nat → Nat → Hp → Prop, (∃ m, W 0 m (upd H1 D (.lst []))) ∧ ∀ i m H, W i m H →
  (J.stop i H ∧ Q (.ref D) H) ∨ (J.go i H ∧ ∃ Nx : Hp → Prop, (∀ H', Nx H' → ∃ m', m' < m ∧ W (i + 1) m' H') ∧ ∀ x H', J.yld i H x H' → g x (wipe σ vs) H' fun σ2 H2 => wipe σ2 vs = wipe σ vs ∧ tt σ2 H2 fun b H3 =>
    if b = true then te σ2 H3 fun y H4 => ∃ acc, H4 D = some (.lst acc) ∧ acc.length < sizeLine ∧ Nx (upd H4 D (.lst (acc ++ [y]))) else Nx H3)
section
variable {K : PySem.W.Frag} {σ : St} {H : Hp} {Q : VK} {g : TG} {tt : TT} {te tl : TE} {ws : List Nat} {tr : TA} {a : Addr} {j : Nat}
theorem z_lcR1 (h : tr σ H fun vs H1 => ∃ n : Int, vs = [.int n] ∧ -(2 ^ 62) ≤ n ∧ n < 2 ^ 62 ∧ LcZ (Itr 0 n.toNat) g tt te ws σ H1 Q) : tLc (iRng1 tr) g tt te ws σ H Q := h
theorem z_lcR2 (h : tr σ H fun vs H1 => ∃ i j : Int, vs = [.int i, .int j] ∧ (-(2 ^ 62) ≤ i ∧ i < 2 ^ 62 ∧ -(2 ^ 62) ≤ j ∧ j < 2 ^ 62) ∧ LcZ (Itr i (j - i).toNat) g tt te ws σ H1 Q) : tLc (iRng2 tr) g tt te ws σ H Q := h
theorem z_lcL (h : tl σ H fun x H1 => ∃ a, x = .ref a ∧ (∃ xs, SqL K H1 a xs) ∧ LcZ (Itl K a) g tt te ws σ H1 Q) : tLc (iList K tl) g tt te ws σ H Q := h
theorem z_lcS (h : tl σ H fun v H1 => ∃ x, v = .str x ∧ LcZ (Its x) g tt te ws σ H1 Q) : tLc (iStr tl) g tt te ws σ H Q := h
theorem c_range {lo : Int} {n : Nat} (f : Nat → V) (hz : n ≤ sizeLine) (hw : ∀ x, wipe ((wipe σ ws).set j (some x)) ws = wipe σ ws)
    (he : ∀ (i : Nat) H1 (R : VK), i < n → Same H H1 → R (f i) H1 → te ((wipe σ ws).set j (some (.int (lo + i)))) H1 R)
    (k : ∀ D, H D = none → Q (.ref D) (upd H D (.lst ((List.range n).map f)))) : LcZ (Itr lo n) (gName j) tYes te ws σ H Q := fun D hD =>
  lc_range (lo := lo) (n := n) (g := gName j) (tt := tYes) (te := te) (vs := ws) (σ := σ) (fun i H' => H' = upd H D (.lst ((List.range i).map f))) rfl (fun i H' hi e => by
    subst e
    refine ⟨hw _, ?_⟩
    unfold tYes
    refine iteT ?_
    refine he i _ _ hi (same_up (fun _ _ e => e) hD) ⟨_, upd_same, by simp; omega, ?_⟩
    rw [upd_upd, List.range_succ, List.map_append] <;> rfl) fun H' e => by subst e; exact k D hD
theorem c_list {xs : List V} (f : V → V) (hx : SqL K H a xs) (hw : ∀ x, wipe ((wipe σ ws).set j (some x)) ws = wipe σ ws) (hz : xs.length ≤ sizeLine)
    (he : ∀ (i : Nat) (x : V) H1 (R : VK), xs[i]? = some x → Same H H1 → R (f x) H1 → te ((wipe σ ws).set j (some x)) H1 R)
    (k : ∀ D, H D = none → Q (.ref D) (upd H D (.lst (xs.map f)))) : LcZ (Itl K a) (gName j) tYes te ws σ H Q := fun D hD =>
  lc_list (K := K) (a := a) (xs := xs) (g := gName j) (tt := tYes) (te := te) (vs := ws) (σ := σ) (fun i H' => H' = upd H D (.lst ((xs.take i).map f))) (by simp) (fun i H' _ e => by subst e; exact sq_up hD hx) (fun i x H' hi e => by
    subst e
    refine ⟨hw _, ?_⟩
    unfold tYes
    refine iteT ?_
    have hlt := (List.getElem?_eq_some_iff.mp hi).1
    refine he i x _ _ hi (same_up (fun _ _ e => e) hD) ⟨_, upd_same, by simp; omega, ?_⟩
    rw [upd_upd]
    have e2 : xs.take (i + 1) = xs.take i ++ [x] := by rw [List.take_add_one, hi] <;> rfl
    rw [e2, List.map_append] <;> rfl) fun H' e => by subst e; have := k D hD; rw [List.take_length]; exact this
theorem c_ints {ns : List Int} (f : Int → V) (hx : SqL K H a (ns.map V.int)) (hw : ∀ x, wipe ((wipe σ ws).set j (some x)) ws = wipe σ ws) (hz : ns.length ≤ sizeLine)
    (he : ∀ (i : Nat) (x : Int) H1 (R : VK), ns[i]? = some x → Same H H1 → R (f x) H1 → te ((wipe σ ws).set j (some (.int x))) H1 R)
    (k : ∀ D, H D = none → Q (.ref D) (upd H D (.lst (ns.map f)))) : LcZ (Itl K a) (gName j) tYes te ws σ H Q :=
  c_list (xs := ns.map V.int) (fun v => match v with | .int i => f i | v => v) hx hw (by rw [List.length_map]; exact hz) (fun i x H1 R hi s q => by
    rw [List.getElem?_map] at hi
    cases e : ns[i]? with
    | none => rw [e] at hi; cases hi
    | some n => rw [e] at hi; cases hi; exact he i n H1 R e s q) fun D hD => by
      have := k D hD
      rw [List.map_map]
      exact this
end
/-! ## isinstance, ends, bits -/
section
variable {K : PySem.W.Frag} {σ : St} {H : Hp} {Q : VK} {R : Hp → Prop}
theorem z_isi {x : V} {n m : String} {b : Bool} (ty : TyX K H x (.type n)) (e : PySem.W.kitOne K (.type n) (.type m) = some b) (h : Q (.bl b) H) : rIsi K [x, .ty m] H Q := ⟨x, .ty m, _, _, b, rfl, .ty m, ty, e, h⟩
theorem z_isiII {i : Int} (h : Q (.bl true) H) : rIsi K [.int i, .ty "int"] H Q := z_isi (.base (.int i)) (kit_ty (by decide +kernel)) h
theorem z_isiIB {i : Int} (h : Q (.bl false) H) : rIsi K [.int i, .ty "bool"] H Q := z_isi (.base (.int i)) (kit_ty (by decide +kernel)) h
theorem z_isiIL {i : Int} (h : Q (.bl false) H) : rIsi K [.int i, .ty "list"] H Q := z_isi (.base (.int i)) (kit_ty (by decide +kernel)) h
theorem z_isiIS {i : Int} (h : Q (.bl false) H) : rIsi K [.int i, .ty "str"] H Q := z_isi (.base (.int i)) (kit_ty (by decide +kernel)) h
theorem z_isiBI {i : Bool} (h : Q (.bl true) H) : rIsi K [.bl i, .ty "int"] H Q := z_isi (.base (.bl i)) (kit_ty (by decide +kernel)) h
theorem z_isiBB {i : Bool} (h : Q (.bl true) H) : rIsi K [.bl i, .ty "bool"] H Q := z_isi (.base (.bl i)) (kit_ty (by decide +kernel)) h
theorem z_isiNI (h : Q (.bl false) H) : rIsi K [.non, .ty "int"] H Q := z_isi (.base .non) (kit_ty (by decide +kernel)) h
theorem z_isiNL (h : Q (.bl false) H) : rIsi K [.non, .ty "list"] H Q := z_isi (.base .non) (kit_ty (by decide +kernel)) h
theorem z_isiNS (h : Q (.bl false) H) : rIsi K [.non, .ty "str"] H Q := z_isi (.base .non) (kit_ty (by decide +kernel)) h
theorem z_isiSS {x : Str} (h : Q (.bl true) H) : rIsi K [.str x, .ty "str"] H Q := z_isi (.base (.str x)) (kit_ty (by decide +kernel)) h
theorem z_isiSI {x : Str} (h : Q (.bl false) H) : rIsi K [.str x, .ty "int"] H Q := z_isi (.base (.str x)) (kit_ty (by decide +kernel)) h
theorem z_isiSL {x : Str} (h : Q (.bl false) H) : rIsi K [.str x, .ty "list"] H Q := z_isi (.base (.str x)) (kit_ty (by decide +kernel)) h
theorem z_isiLL {a : Addr} {xs : List V} (e : H a = some (.lst xs)) (h : Q (.bl true) H) : rIsi K [.ref a, .ty "list"] H Q := z_isi (.base (.lst e)) (kit_ty (by decide +kernel)) h
theorem z_isiLI {a : Addr} {xs : List V} (e : H a = some (.lst xs)) (h : Q (.bl false) H) : rIsi K [.ref a, .ty "int"] H Q := z_isi (.base (.lst e)) (kit_ty (by decide +kernel)) h
theorem z_isiLS {a : Addr} {xs : List V} (e : H a = some (.lst xs)) (h : Q (.bl false) H) : rIsi K [.ref a, .ty "str"] H Q := z_isi (.base (.lst e)) (kit_ty (by decide +kernel)) h
theorem z_isiTT {a : Addr} {xs : List V} (e : H a = some (.tup xs)) (h : Q (.bl true) H) : rIsi K [.ref a, .ty "tuple"] H Q := z_isi (.base (.tup e)) (kit_ty (by decide +kernel)) h
theorem z_isiTL {a : Addr} {xs : List V} (e : H a = some (.tup xs)) (h : Q (.bl false) H) : rIsi K [.ref a, .ty "list"] H Q := z_isi (.base (.tup e)) (kit_ty (by decide +kernel)) h
theorem z_isiTI {a : Addr} {xs : List V} (e : H a = some (.tup xs)) (h : Q (.bl false) H) : rIsi K [.ref a, .ty "int"] H Q := z_isi (.base (.tup e)) (kit_ty (by decide +kernel)) h
/-- nothing was made -/
theorem z_gc0 (h : R H) : ∃ G, Gc H H G ∧ R G := ⟨H, gc_refl, h⟩
theorem z_gc {H' G : Hp} (g : Gc H H' G) (h : R G) : ∃ G, Gc H H' G ∧ R G := ⟨G, g, h⟩
/-- one thing was made, and is told -/
theorem z_gcN {p : Addr} {o : HO} (hp : H p = none) (f : flatO o = true) (h : R (upd H p o)) : ∃ G, Gc H (upd H p o) G ∧ R G := ⟨_, gc_up gc_refl (mu_none hp) (mu_none hp) f, h⟩
end
section
theorem and_nat (a b : Nat) : Builtin.bitAnd (a : Int) (b : Int) = ((a &&& b : Nat) : Int) := by rw [PyProof.Rows.bitAnd_pp (by omega) (by omega)] <;> rfl
theorem xor_nat (a b : Nat) : Builtin.bitXor (a : Int) (b : Int) = ((a ^^^ b : Nat) : Int) := by rw [Bits.bitXor_pp (by omega) (by omega)] <;> rfl
theorem or_nat (a b : Nat) : Builtin.bitOr (a : Int) (b : Int) = ((a ||| b : Nat) : Int) := by rw [Bits.bitOr_pp (by omega) (by omega)] <;> rfl
end
/-- a row of bytes -/
def Byt (ns : List Int) : Prop := ∀ n ∈ ns, 0 ≤ n ∧ n < 256

section
variable {K : PySem.W.Frag} {σ : St} {H : Hp} {Q : VK} {te : TE} {ws : List Nat} {a : Addr} {j : Nat}
/-- whole numbers of which is told what holds of each -/
theorem c_rangeP {lo : Int} {n : Nat} (Pr : Nat → Int → Prop) (hz : n ≤ sizeLine) (hw : ∀ x, wipe ((wipe σ ws).set j (some x)) ws = wipe σ ws)
    (he : ∀ (i : Nat) H1 (R : VK), i < n → Same H H1 → (∀ y, Pr i y → R (.int y) H1) → te ((wipe σ ws).set j (some (.int (lo + i)))) H1 R)
    (k : ∀ D (ns : List Int), H D = none → ns.length = n → (∀ (i : Nat) y, ns[i]? = some y → Pr i y) → Q (.ref D) (upd H D (.lst (ns.map V.int)))) : LcZ (Itr lo n) (gName j) tYes te ws σ H Q := fun D hD =>
  lc_range (lo := lo) (n := n) (g := gName j) (tt := tYes) (te := te) (vs := ws) (σ := σ) (fun i H' => ∃ ns : List Int, ns.length = i ∧ (∀ (i : Nat) y, ns[i]? = some y → Pr i y) ∧ H' = upd H D (.lst (ns.map V.int))) ⟨[], rfl, fun i y e => by simp at e, rfl⟩ (fun i H' hi ⟨ns, hl, hp, e⟩ => by
    subst e
    refine ⟨hw _, ?_⟩
    unfold tYes
    refine iteT ?_
    refine he i _ _ hi (same_up (fun _ _ e => e) hD) fun y hy => ⟨_, upd_same, by rw [List.length_map]; omega, ns ++ [y], by simp [hl], fun m z e => ?_, by rw [upd_upd, List.map_append] <;> rfl⟩
    rw [List.getElem?_append] at e
    split at e
    · exact hp m z e
    · rename_i h
      have em : m - ns.length = 0 := by
        cases q : m - ns.length with
        | zero => rfl
        | succ d => rw [q] at e; simp at e
      rw [em] at e
      have ez : y = z := by simpa using e
      subst ez
      have : m = i := by omega
      subst this
      exact hy) fun H' ⟨ns, hl, hp, e⟩ => by subst e; exact k D ns hD hl hp
end
theorem byt_of {ns : List Int} (h : ∀ (i : Nat) y, ns[i]? = some y → 0 ≤ y ∧ y < 256) : Byt ns := fun n hn => by
  obtain ⟨i, hi, e⟩ := List.mem_iff_getElem.mp hn
  exact h i n (by rw [List.getElem?_eq_getElem hi, e])
/-! ## == of lists of whole numbers -/
section
variable {K : PySem.W.Frag} {H : Hp} {Q : VK}
theorem dpAll_ints {K : PySem.W.Frag} {H : Hp} : ∀ ns : List Int, DpAll K H (ns.map V.int) (ns.map PyData.int)
  | [] => .nil
  | n :: ns => .cons (.int n) (dpAll_ints ns)
theorem dp_ints {a : Addr} {ns : List Int} (h : SqL K H a (ns.map V.int)) : Dp K H (.ref a) (.list (ns.map PyData.int)) := .lst h (dpAll_ints ns)
theorem canLay_ints : ∀ ns : List Int, PyData.canLayAll0 (ns.map PyData.int) = true
  | [] => rfl
  | n :: ns => by
    show (PyData.canLay0 (.int n) && PyData.canLayAll0 (ns.map PyData.int)) = true
    rw [canLay_ints ns] <;> rfl
theorem depth_ints : ∀ ns : List Int, PyData.depthAll (ns.map PyData.int) = 0
  | [] => rfl
  | n :: ns => by
    show max (PyData.depth (.int n)) (PyData.depthAll (ns.map PyData.int)) = 0
    rw [depth_ints ns] <;> rfl
theorem shaped_ints (ns : List Int) : SeqAt.shaped (.list (ns.map PyData.int)) = true := by
  unfold SeqAt.shaped
  rw [show PyData.canLay0 (.list (ns.map PyData.int)) = true from canLay_ints ns]
  rw [show PyData.depth (.list (ns.map PyData.int)) = 1 from by show PyData.depthAll _ + 1 = 1; rw [depth_ints]] <;> rfl
theorem eqvAll_ints : ∀ ns ms : List Int, PyData.eqvAll (ns.map PyData.int) (ms.map PyData.int) = decide (ns = ms)
  | [], [] => rfl
  | [], m :: ms => rfl
  | n :: ns, [] => rfl
  | n :: ns, m :: ms => by
    show (n == m && PyData.eqvAll (ns.map PyData.int) (ms.map PyData.int)) = _
    rw [eqvAll_ints ns ms]
    by_cases h : n = m
    · subst h; simp
    · simp [h]
theorem eqv_ints (ns ms : List Int) : PyData.eqv (.list (ns.map PyData.int)) (.list (ms.map PyData.int)) = decide (ns = ms) := eqvAll_ints ns ms
theorem z_eqL {a b : Addr} {ns ms : List Int} (ha : SqL K H a (ns.map V.int)) (hb : SqL K H b (ms.map V.int)) (h : Q (.bl (decide (ns = ms))) H) : rEqZ K (.ref a) (.ref b) H Q :=
  .inr ⟨_, _, dp_ints ha, dp_ints hb, shaped_ints ns, shaped_ints ms, by rw [eqv_ints]; exact h⟩
theorem z_neL {a b : Addr} {ns ms : List Int} (ha : SqL K H a (ns.map V.int)) (hb : SqL K H b (ms.map V.int)) (h : Q (.bl (!decide (ns = ms))) H) : rNeZ K (.ref a) (.ref b) H Q :=
  .inr ⟨_, _, dp_ints ha, dp_ints hb, shaped_ints ns, shaped_ints ms, by rw [eqv_ints]; exact h⟩
end

/-! ## Heaps that grow -/
section
variable {K : PySem.W.Frag} {H H1 H' : Hp} {p q a : Addr} {o u : HO} {xs : List V}
def isTup : HO → Bool
  | .tup _ => true
  | _ => false
/-- what stood stands, no tuple is new -/
structure Sx (H H1 : Hp) : Prop where
  same : Same H H1
  nt : ∀ b xs, H1 b = some (.tup xs) → H b = some (.tup xs)
theorem sx_refl : Sx H H := ⟨fun _ _ e => e, fun _ _ e => e⟩
theorem sx_up (s : Sx H H1) (hq : H q = none) (ho : isTup o = false) : Sx H (upd H1 q o) := ⟨same_up s.same hq, fun b xs e => by
  by_cases z : b = q
  · subst z; rw [upd_same] at e; cases e; cases ho
  · rw [upd_ne z] at e; exact s.nt b xs e⟩
theorem sx_new (s : Sx H H1) (hq : H1 q = none) (ho : isTup o = false) : Sx H (upd H1 q o) := sx_up s (s.same.free hq) ho
theorem gc_sx (s : Sx H H1) : Gc H H1 H := gc_sameT s.same s.nt
theorem get_new (hq : H1 q = none) (h : H1 p = some o) : upd H1 q u p = some o := by rw [upd_ne (ne_of_none h hq)]; exact h
theorem ne_new (hq : upd H p o q = none) : q ≠ p := (upd_none.mp hq).1
theorem none_new (hq : upd H p o q = none) : H q = none := (upd_none.mp hq).2
theorem sq_new (hq : H1 q = none) (h : SqL K H1 a xs) : SqL K (upd H1 q u) a xs := sq_up hq h
end

section
variable {K : PySem.W.Frag} {H H0 H1 H' : Hp} {p q a : Addr} {o u : HO} {xs : List V}
def looseO : HO → Bool
  | .own _ => false
  | .tup _ => false
  | .frz _ _ => false
  | .tbl _ => false
  | _ => true
/-- H0 has more than H: things that may be dropped -/
structure Bs (H H0 : Hp) : Prop where
  same : Same H H0
  back : ∀ b u, H0 b = some u → looseO u = false → H b = some u
theorem bs_refl : Bs H H := ⟨fun _ _ e => e, fun _ _ e _ => e⟩
theorem bs_up (s : Bs H H1) (hq : H q = none) (ho : looseO o = true) : Bs H (upd H1 q o) := ⟨same_up s.same hq, fun b u e k => by
  by_cases z : b = q
  · subst z; rw [upd_same] at e; cases e; rw [ho] at k; cases k
  · rw [upd_ne z] at e; exact s.back b u e k⟩
theorem bs_new (s : Bs H H1) (hq : H1 q = none) (ho : looseO o = true) : Bs H (upd H1 q o) := bs_up s (s.same.free hq) ho
theorem kept_loose {o : HO} (h : kept o = true) : looseO o = false := by cases o <;> first | rfl | cases h
/-- back to a smaller heap -/
theorem gc_bs (b : Bs H H0) (s : Sx H H') : Gc H0 H' H := ⟨s.same, fun a o e => .inr ⟨b.same a o e, fun c h => b.back c _ h rfl⟩, fun c u e k => b.back c u e (kept_loose k), .inr s.nt⟩
theorem gc_bsD (b : Bs H H0) (s : Same H H') (nd : ND H) : Gc H0 H' H := ⟨s, fun a o e => .inr ⟨b.same a o e, fun c h => b.back c _ h rfl⟩, fun c u e k => b.back c u e (kept_loose k), .inl nd⟩
theorem gc_mut {p : Addr} {xs ys : List V} : Gc (upd H p (.lst xs)) (upd H p (.lst ys)) (upd H p (.lst ys)) := by
  have g : Gc (upd H p (.lst xs)) (upd (upd H p (.lst xs)) p (.lst ys)) (upd (upd H p (.lst xs)) p (.lst ys)) := gc_up gc_refl mu_atL mu_atL
  rw [upd_upd] at g
  exact g
theorem sq_same (s : Same H H1) (h : SqL K H a xs) : SqL K H1 a xs := s.seq h
end

theorem gc_one {H H0 H' : Hp} {p : Addr} {o : HO} (b : Bs H H0) (s : Sx H H') (e : H' p = some o) (f : flatO o = true := by rfl) : Gc H0 H' (upd H p o) := (gc_bs b s).put e f

theorem upd_comm {H : Hp} {p q : Addr} {o u : HO} (h : p ≠ q) : upd (upd H p o) q u = upd (upd H q u) p o := by
  funext b
  unfold upd
  by_cases e : b = q
  · subst e
    have : ¬ b = p := fun z => h z.symm
    simp [this]
  · simp [e]

section
variable {K : PySem.W.Frag} {σ : St} {H : Hp} {Q : VK} {R A B : Prop} {p a : Addr} {xs ys : List V} {y : V}
theorem z_ifR {α : Type} [DecidableEq α] {x : α} (h : A) : if decide (x = x) = true then A else B := by rw [if_pos (decide_eq_true rfl)]; exact h
theorem z_ifnR {α : Type} [DecidableEq α] {x : α} (h : B) : if (!decide (x = x)) = true then A else B := by rw [decide_eq_true (rfl : x = x)]; exact z_inT h
theorem z_ifY {c : Prop} [Decidable c] (hc : c) (h : A) : if decide c = true then A else B := by rw [if_pos (decide_eq_true hc)]; exact h
theorem z_ifN {c : Prop} [Decidable c] (hc : ¬ c) (h : B) : if decide c = true then A else B := by rw [if_neg (by rw [decide_eq_false hc]; exact Bool.false_ne_true)]; exact h
theorem z_ifnY {c : Prop} [Decidable c] (hc : c) (h : B) : if (!decide c) = true then A else B := by rw [decide_eq_true hc]; exact z_inT h
theorem z_ifnN {c : Prop} [Decidable c] (hc : ¬ c) (h : A) : if (!decide c) = true then A else B := by rw [decide_eq_false hc]; exact z_inF h
theorem z_list (hp : SqL K H p ys) (h : ∀ l, H l = none → Q (.ref l) (upd H l (.lst ys))) : rListOf K [.ref p] H Q := ⟨p, ys, rfl, .inl hp, h⟩
theorem z_bm {T : String} {r : V → List V → Hp → VK → Prop} {to : TE} {t : TA} (h : to σ H fun x H1 => tyV K T x H1 ∧ t σ H1 fun xs H2 => r x xs H2 Q) : tBM K T r to t σ H Q := h
theorem z_bm0 {T : String} {r : V → List V → Hp → VK → Prop} {to : TE} (h : to σ H fun x H1 => tyV K T x H1 ∧ r x [] H1 Q) : tBM0 K T r to σ H Q := h
theorem z_tyL (hp : SqL K H p xs) (r : R) : tyV K "list" (.ref p) H ∧ R := ⟨.inl ⟨rfl, _, hp⟩, r⟩
theorem z_app (hp : H p = some (.lst xs)) (hz : xs.length < sizeLine) (h : Q .non (upd H p (.lst (xs ++ [y])))) : rAppend (.ref p) [y] H Q := ⟨p, xs, y, rfl, rfl, hp, hz, h⟩
theorem cut_to (xs : List V) {i : Int} (h : 0 ≤ i) : cutV xs none (some i) = xs.take i.toNat := by
  unfold cutV
  have e1 : HT.sIx xs.length 0 none = 0 := rfl
  have e2 : HT.sIx xs.length xs.length (some i) = min i.toNat xs.length := if_neg (by omega)
  rw [e1, e2, List.drop_zero, Nat.sub_zero]
  by_cases l : i.toNat ≤ xs.length
  · rw [Nat.min_eq_left l]
  · rw [Nat.min_eq_right (by omega), List.take_of_length_le (Nat.le_refl _), List.take_of_length_le (by omega)]
theorem cut_from (xs : List V) {i : Int} (h : 0 ≤ i) : cutV xs (some i) none = xs.drop i.toNat := by
  unfold cutV
  have e1 : HT.sIx xs.length xs.length none = xs.length := rfl
  have e2 : HT.sIx xs.length 0 (some i) = min i.toNat xs.length := if_neg (by omega)
  rw [e1, e2]
  by_cases l : i.toNat ≤ xs.length
  · rw [Nat.min_eq_left l, List.take_of_length_le (by rw [List.length_drop]; exact Nat.le_refl _)]
  · rw [Nat.min_eq_right (by omega), Nat.sub_self, List.take_zero, List.drop_eq_nil_of_le (by omega)]
theorem cut_part (xs : List V) {i j : Int} (h : 0 ≤ i) (h' : 0 ≤ j) : cutV xs (some i) (some j) = (xs.drop i.toNat).take (j.toNat - i.toNat) := by
  unfold cutV
  have e1 : HT.sIx xs.length xs.length (some j) = min j.toNat xs.length := if_neg (by omega)
  have e2 : HT.sIx xs.length 0 (some i) = min i.toNat xs.length := if_neg (by omega)
  rw [e1, e2]
  by_cases l : i.toNat ≤ xs.length
  · rw [Nat.min_eq_left l]
    by_cases l2 : j.toNat ≤ xs.length
    · rw [Nat.min_eq_left l2]
    · rw [Nat.min_eq_right (by omega), List.take_of_length_le (by rw [List.length_drop]; exact Nat.le_refl _), List.take_of_length_le (by rw [List.length_drop]; omega)]
  · rw [Nat.min_eq_right (a := i.toNat) (by omega), List.drop_eq_nil_of_le (Nat.le_refl _), List.drop_eq_nil_of_le (by omega), List.take_nil, List.take_nil]
theorem z_slTo {i : Int} (h0 : 0 ≤ i) (hp : SqL K H a xs) (h : ∀ p, H p = none → Q (.ref p) (upd H p (.lst (xs.take i.toNat)))) : rSlZ K (.ref a) none (some i) H Q := z_slL hp fun p hp => by rw [cut_to _ h0]; exact h p hp
theorem z_slFrom {i : Int} (h0 : 0 ≤ i) (hp : SqL K H a xs) (h : ∀ p, H p = none → Q (.ref p) (upd H p (.lst (xs.drop i.toNat)))) : rSlZ K (.ref a) (some i) none H Q := z_slL hp fun p hp => by rw [cut_from _ h0]; exact h p hp
theorem z_slPart {i j : Int} (h0 : 0 ≤ i) (h1 : 0 ≤ j) (hp : SqL K H a xs) (h : ∀ p, H p = none → Q (.ref p) (upd H p (.lst ((xs.drop i.toNat).take (j.toNat - i.toNat))))) : rSlZ K (.ref a) (some i) (some j) H Q := z_slL hp fun p hp => by rw [cut_part _ h0 h1]; exact h p hp
end

section
variable {K : PySem.W.Frag} {σ σ' : St} {H : Hp} {Q : VK} {a : Addr} {ns : List Int} {t u : TS} {D : Ends} {i : Nat} {x : Option V}
theorem z_slToI {i : Int} (h0 : 0 ≤ i) (hp : SqL K H a (ns.map V.int)) (h : ∀ p, H p = none → Q (.ref p) (upd H p (.lst ((ns.take i.toNat).map V.int)))) : rSlZ K (.ref a) none (some i) H Q := z_slTo h0 hp fun p hp => by rw [← List.map_take]; exact h p hp
theorem z_slFromI {i : Int} (h0 : 0 ≤ i) (hp : SqL K H a (ns.map V.int)) (h : ∀ p, H p = none → Q (.ref p) (upd H p (.lst ((ns.drop i.toNat).map V.int)))) : rSlZ K (.ref a) (some i) none H Q := z_slFrom h0 hp fun p hp => by rw [← List.map_drop]; exact h p hp
theorem z_slPartI {i j : Int} (h0 : 0 ≤ i) (h1 : 0 ≤ j) (hp : SqL K H a (ns.map V.int)) (h : ∀ p, H p = none → Q (.ref p) (upd H p (.lst (((ns.drop i.toNat).take (j.toNat - i.toNat)).map V.int)))) : rSlZ K (.ref a) (some i) (some j) H Q := z_slPart h0 h1 hp fun p hp => by rw [← List.map_drop, ← List.map_take]; exact h p hp
theorem z_catI {a c : Addr} {ns ms : List Int} (ha : SqL K H a (ns.map V.int)) (hc : SqL K H c (ms.map V.int)) (z : ns.length + ms.length ≤ sizeLine) (h : ∀ p, H p = none → Q (.ref p) (upd H p (.lst ((ns ++ ms).map V.int)))) : rAddZ K (.ref a) (.ref c) H Q :=
  z_cat ha hc (by rw [List.length_map, List.length_map]; exact z) fun p hp => by rw [← List.map_append]; exact h p hp
theorem z_seqS (e : σ.set i x = σ') (h : tSeq t u D σ' H) : tSeq t u D (σ.set i x) H := by rw [e]; exact h
theorem z_eqLN {a b : Addr} {xs ys : List V} {ns ms : List Int} (e1 : xs = ns.map V.int) (e2 : ys = ms.map V.int) (ha : SqL K H a xs) (hb : SqL K H b ys) (h : Q (.bl (decide (ns = ms))) H) : rEqZ K (.ref a) (.ref b) H Q := by subst e1 e2; exact z_eqL ha hb h
theorem z_neLN {a b : Addr} {xs ys : List V} {ns ms : List Int} (e1 : xs = ns.map V.int) (e2 : ys = ms.map V.int) (ha : SqL K H a xs) (hb : SqL K H b ys) (h : Q (.bl (!decide (ns = ms))) H) : rNeZ K (.ref a) (.ref b) H Q := by subst e1 e2; exact z_neL ha hb h
end
end Z


-- side questions
local macro_rules | `(tactic| walk_at "sd") => `(tactic| first
  | assumption | omega | (show (_ : Nat) ≤ 16777216; simp; done) | decide | exact Or.inr ⟨by omega, by omega⟩ | exact Or.inl ⟨by omega, by omega⟩ | exact ⟨by omega, by omega⟩ | exact ⟨by omega, by omega, by omega⟩ | exact ⟨by omega, by omega, by decide⟩)
-- what stands at an address
local macro_rules | `(tactic| walk_at "lk") => `(tactic| first
  | assumption | exact L2.upd_same
  | (apply L2.SqL.of; walk_at "lk")
  | (apply Z.get_new; (focus (· assumption)); walk_at "lk")
  | (apply Z.sq_new; (focus (· assumption)); walk_at "lk"))
-- a heap that has only grown
local macro_rules | `(tactic| walk_at "sx") => `(tactic| first
  | exact Z.sx_refl | assumption
  | ((refine Z.sx_new ?_ ?_ rfl); (focus (· walk_at "sx")); assumption)
  | ((refine Z.sx_up ?_ ?_ rfl); (focus (· walk_at "sx")); assumption))
local macro_rules | `(tactic| walk_at "bs") => `(tactic| first
  | exact Z.bs_refl | assumption
  | ((refine Z.bs_new ?_ ?_ rfl); (focus (· walk_at "bs")); assumption)
  | ((refine Z.bs_up ?_ ?_ rfl); (focus (· walk_at "bs")); assumption))
-- back to a base heap with one thing more
local macro_rules | `(tactic| walk_at "g1") => `(tactic| (refine Z.z_gc (Z.gc_one (by walk_at "bs") (by walk_at "sx") (by walk_at "lk")) ?_))
local macro_rules | `(tactic| walk_at "g0") => `(tactic| (refine Z.z_gc (Z.gc_bs (by walk_at "bs") (by walk_at "sx")) ?_))
-- one step of a reading
local macro_rules | `(tactic| walk_at "z1") => `(tactic| first
  | ((with_reducible apply Z.z_seqS); (focus (· first | (dsimp only [List.set]; done) | (dsimp only [List.set]; exact rfl))))
  | with_reducible refine Z.z_seq ?_
  | with_reducible refine Z.z_asg ?_
  | ((with_reducible show L2.tVar _ _ _ _); refine Z.z_var rfl ?_)
  | with_reducible refine Z.z_c ?_
  | with_reducible refine Z.z_op ?_
  | with_reducible refine Z.z_addI ?_
  | with_reducible refine Z.z_I0 ?_
  | ((with_reducible refine Z.z_I ?_ ?_); (focus (· walk_at "sd")))
  | ((with_reducible refine Z.z_mulI ?_ ?_); (focus (· walk_at "sd")))
  | with_reducible refine Z.z_eqI ?_
  | with_reducible refine Z.z_neI ?_
  | with_reducible refine Z.z_bl ?_
  | with_reducible refine Z.z_tst ?_
  | with_reducible refine Z.z_ifS ?_
  | with_reducible refine Z.z_and ?_
  | with_reducible refine Z.z_or ?_
  | with_reducible refine Z.z_not ?_
  | with_reducible refine Z.z_andV ?_
  | with_reducible refine Z.z_orV ?_
  | with_reducible refine Z.z_notV ?_
  | with_reducible refine Z.z_iT ?_
  | with_reducible refine Z.z_iF ?_
  | with_reducible refine Z.z_inT ?_
  | with_reducible refine Z.z_inF ?_
  | with_reducible refine Z.z_truZ ?_
  | with_reducible refine Z.z_truB ?_
  | with_reducible refine Z.z_truI ?_
  | with_reducible refine Z.z_ret ?_
  | with_reducible refine Z.z_call ?_
  | with_reducible refine Z.z_cons ?_
  | with_reducible refine Z.z_nil ?_
  | with_reducible refine Z.z_cb ?_
  | with_reducible refine Z.z_next ?_
  | with_reducible refine Z.z_drop ?_
  | with_reducible refine Z.z_sgc ?_
  | with_reducible refine Z.z_tgc ?_
  | with_reducible refine Z.z_ugc ?_
  | with_reducible refine Z.z_tB ?_
  | with_reducible refine Z.z_ifE ?_
  | with_reducible refine Z.z_chain ?_
  | with_reducible refine Z.z_lst ?_
  | with_reducible refine Z.z_tup ?_
  | with_reducible refine Z.z_sl ?_
  | with_reducible refine Z.z_nopart ?_
  | with_reducible refine Z.z_part ?_
  | with_reducible refine Z.z_int ?_
  | with_reducible refine Z.z_un ?_
  | with_reducible refine Z.z_rU ?_
  | with_reducible refine Z.z_asgS ?_
  | with_reducible refine Z.z_asgT ?_
  | with_reducible refine Z.z_retN ?_
  | ((with_reducible show L2.tAug _ _ _ _ _ _); refine Z.z_aug rfl ?_)
  | with_reducible refine Z.z_ipI ?_
  | with_reducible refine Z.z_brk ?_
  | with_reducible refine Z.z_cont ?_
  | with_reducible refine Z.z_forR1 ?_
  | with_reducible refine Z.z_forR2 ?_
  | with_reducible refine Z.z_forL ?_
  | with_reducible refine Z.z_forT ?_
  | with_reducible refine Z.z_forE ?_
  | with_reducible refine Z.z_lcR1 ?_
  | with_reducible refine Z.z_lcR2 ?_
  | with_reducible refine Z.z_lcL ?_
  | with_reducible refine Z.z_lcS ?_
  | ((with_reducible refine Z.z_rn1 ?_ ?_ ?_); (focus (· walk_at "sd")); (focus (· walk_at "sd")))
  | ((with_reducible refine Z.z_rn2 ?_ ?_); (focus (· walk_at "sd")))
  | (with_reducible refine Z.z_gn ?_; dsimp only [List.set])
  | with_reducible refine Z.z_gc0 ?_
  | with_reducible refine Z.z_ifR ?_
  | with_reducible refine Z.z_ifnR ?_
  | with_reducible refine Z.z_bm ?_
  | with_reducible refine Z.z_bm0 ?_
  | ((with_reducible apply Z.z_tyL); (focus (· walk_at "lk")))
  | ((with_reducible apply Z.z_isiLL); (focus (· walk_at "lk")))
  | ((with_reducible apply Z.z_lenI); (focus (· walk_at "lk")))
  | ((with_reducible apply Z.z_ixI); (focus (· walk_at "lk")); (focus (· walk_at "sd")); (focus (· walk_at "sd")))
  | ((with_reducible apply Z.z_eqL); (focus (· walk_at "lk")); (focus (· walk_at "lk")))
  | ((with_reducible apply Z.z_neL); (focus (· walk_at "lk")); (focus (· walk_at "lk")))
  | with_reducible refine Z.z_isiII ?_
  | with_reducible refine Z.z_isiIB ?_
  | with_reducible refine Z.z_isiIL ?_
  | with_reducible refine Z.z_isiIS ?_
  | with_reducible refine Z.z_isiBI ?_
  | with_reducible refine Z.z_isiBB ?_
  | with_reducible refine Z.z_isiNI ?_
  | with_reducible refine Z.z_isiNL ?_
  | with_reducible refine Z.z_isiNS ?_
  | with_reducible refine Z.z_isiSS ?_
  | with_reducible refine Z.z_isiSI ?_
  | with_reducible refine Z.z_isiSL ?_)
local macro_rules | `(tactic| walk_at "z") => `(tactic| repeat (walk_at "z1"))
local macro_rules | `(tactic| walk_at "z0") => `(tactic| (dsimp only [Z.cx_K, L2.start, List.length_cons, List.length_nil, List.replicate, Nat.reduceSub, Nat.reduceAdd]; simp only [List.map_cons, List.map_nil, List.cons_append, List.nil_append]; walk_at "z"))

namespace K05
open PySem L2 Z
def top (i : Nat) : Stmt := PySem.Challenge.pw_tornshelf_k05_sums_of_rows.main.body.getD i (.Pass ⟨0, 0, 0, 0⟩)
abbrev s_crc_on : Stmt := (top 4)
theorem sc_crc_on : FnScope ["begun", "row", "found", "byte", "k"] ["begun", "row"] (defScope s_crc_on) := ⟨rfl, rfl, rfl, by decide +kernel, rfl, by decide +kernel, by decide +kernel⟩
abbrev s_crc : Stmt := (top 5)
theorem sc_crc : FnScope ["row"] ["row"] (defScope s_crc) := ⟨rfl, rfl, rfl, by decide +kernel, rfl, by decide +kernel, by decide +kernel⟩
abbrev s_crc_row : Stmt := (top 6)
theorem sc_crc_row : FnScope ["row", "found"] ["row"] (defScope s_crc_row) := ⟨rfl, rfl, rfl, by decide +kernel, rfl, by decide +kernel, by decide +kernel⟩
abbrev s_l_mixed : Stmt := (top 8)
theorem sc_l_mixed : FnScope ["_law_cell", "_law_k", "_law_number"] ["_law_cell", "_law_k"] (defScope s_l_mixed) := ⟨rfl, rfl, rfl, by decide +kernel, rfl, by decide +kernel, by decide +kernel⟩
abbrev s_l_whole : Stmt := (top 9)
theorem sc_l_whole : FnScope ["_law_found"] ["_law_found"] (defScope s_l_whole) := ⟨rfl, rfl, rfl, by decide +kernel, rfl, by decide +kernel, by decide +kernel⟩
abbrev s_l_row : Stmt := (top 10)
theorem sc_l_row : FnScope ["_law_cell", "_law_most", "_law_many", "_law_way", "_law_k"] ["_law_cell", "_law_most"] (defScope s_l_row) := ⟨rfl, rfl, rfl, by decide +kernel, rfl, by decide +kernel, by decide +kernel⟩
abbrev s_l_due : Stmt := (top 11)
theorem sc_l_due : FnScope ["_law_begun", "_law_row_here", "_law_bits", "_law_byte", "_law_k", "_law_at"] ["_law_begun", "_law_row_here"] (defScope s_l_due) := ⟨rfl, rfl, rfl, by decide +kernel, rfl, by decide +kernel, by decide +kernel⟩
abbrev s_l_right : Stmt := (top 12)
theorem sc_l_right : FnScope ["_law_cell", "_law_row_here", "_law_handed", "_law_found", "_law_begun", "_law_at", "_law_tail"] ["_law_cell"] (defScope s_l_right) := ⟨rfl, rfl, rfl, by decide +kernel, rfl, by decide +kernel, by decide +kernel⟩
abbrev s_law : Stmt := (top 13)
theorem sc_law : FnScope ["_law_script", "_law_cell"] ["_law_script"] (defScope s_law) := ⟨rfl, rfl, rfl, by decide +kernel, rfl, by decide +kernel, by decide +kernel⟩
/-- what the top has written -/
structure Tx (K : PySem.W.Frag) (mg : Str → Option Value) where
  a_crc_on : Addr
  d_crc_on : FuncData
  F_crc_on : Fun K "crc_on" "crc_on" s_crc_on a_crc_on d_crc_on
  b_crc_on : Binds K d_crc_on ["begun", "row"] []
  g_crc_on : mg "crc_on" = some (.ref a_crc_on)
  a_crc : Addr
  d_crc : FuncData
  F_crc : Fun K "crc" "crc" s_crc a_crc d_crc
  b_crc : Binds K d_crc ["row"] []
  g_crc : mg "crc" = some (.ref a_crc)
  a_crc_row : Addr
  d_crc_row : FuncData
  F_crc_row : Fun K "crc_row" "crc_row" s_crc_row a_crc_row d_crc_row
  b_crc_row : Binds K d_crc_row ["row"] []
  g_crc_row : mg "crc_row" = some (.ref a_crc_row)
  a_l_mixed : Addr
  d_l_mixed : FuncData
  F_l_mixed : Fun K "_law_mixed" "_law_mixed" s_l_mixed a_l_mixed d_l_mixed
  b_l_mixed : Binds K d_l_mixed ["_law_cell", "_law_k"] []
  g_l_mixed : mg "_law_mixed" = some (.ref a_l_mixed)
  a_l_whole : Addr
  d_l_whole : FuncData
  F_l_whole : Fun K "_law_whole" "_law_whole" s_l_whole a_l_whole d_l_whole
  b_l_whole : Binds K d_l_whole ["_law_found"] []
  g_l_whole : mg "_law_whole" = some (.ref a_l_whole)
  a_l_row : Addr
  d_l_row : FuncData
  F_l_row : Fun K "_law_row" "_law_row" s_l_row a_l_row d_l_row
  b_l_row : Binds K d_l_row ["_law_cell", "_law_most"] []
  g_l_row : mg "_law_row" = some (.ref a_l_row)
  a_l_due : Addr
  d_l_due : FuncData
  F_l_due : Fun K "_law_due" "_law_due" s_l_due a_l_due d_l_due
  b_l_due : Binds K d_l_due ["_law_begun", "_law_row_here"] []
  g_l_due : mg "_law_due" = some (.ref a_l_due)
  a_l_right : Addr
  d_l_right : FuncData
  F_l_right : Fun K "_law_right" "_law_right" s_l_right a_l_right d_l_right
  b_l_right : Binds K d_l_right ["_law_cell"] []
  g_l_right : mg "_law_right" = some (.ref a_l_right)
  a_law : Addr
  d_law : FuncData
  F_law : Fun K "law" "law" s_law a_law d_law
  b_law : Binds K d_law ["_law_script"] []
  g_law : mg "law" = some (.ref a_law)
  z_bool : mg "bool" = none
  z_int : mg "int" = none
  z_isinstance : mg "isinstance" = none
  z_len : mg "len" = none
  z_list : mg "list" = none
  z_range : mg "range" = none
  z_sum : mg "sum" = none
  u_BEGIN : Value
  m_BEGIN : mg "BEGIN" = some u_BEGIN
  r_BEGIN : RelV (.int 65535) u_BEGIN
  u_FEED : Value
  m_FEED : mg "FEED" = some u_FEED
  r_FEED : RelV (.int 4129) u_FEED
  u_TOP : Value
  m_TOP : mg "TOP" = some u_TOP
  r_TOP : RelV (.int 32768) u_TOP

/-- the law's own mixing: some number below 2 ** 31 -/
def spMixed : Sp := fun vs H Q _ => ∃ c k : Int, vs = [.int c, .int k] ∧ 0 ≤ k ∧ k ≤ 10000 ∧ ∀ n : Int, 0 ≤ n → n < 2147483648 → Q (.int n) H
theorem ok_l_mixed {P : Program} {w : World} {K : PySem.W.Frag} {mg : Str → Option Value} {base : Heap} (T : Tx K mg) : FnOk P w K mg base CX0 1 T.a_l_mixed T.d_l_mixed ["_law_cell", "_law_k"] spMixed := by
  refine T.F_l_mixed.ok sc_l_mixed (fun vs H Q E h => ?_) (fun cdv A outer s H vs Q E hr h => ?_)
  · obtain ⟨c, k, rfl, _⟩ := h; rfl
  · obtain ⟨c, k, rfl, h0, h1, q⟩ := h
    refine ⟨_, (pss_gc (pss_cons (ps_if (PW.pt (pw_and (pt_cmpR op_ge (pv 0) (pe_op op_shl pe_int pe_int) (nomark _)) (pw_and (pt_cmpR (op_eqZ (K := K) rfl hr.units) (pe_op op_mod (pv 0) pe_int) pe_int (nomark _)) (pw_and1 (pt_cmpR op_gt (pe_op op_shr (pv 0) (pe_op (op_addZ (K := K) rfl) pe_int (pe_op op_mulZ pe_int (pv 1)))) pe_int (nomark _)))))) (pss_one (ps_ret (pe_op op_mod (pe_op op_shr (pv 0) (pe_op (op_addZ (K := K) rfl) pe_int (pe_op op_mulZ pe_int (pv 1)))) pe_int))) pss_nil)
      (pss_cons (ps_set (i := 2) sc_l_mixed.nd rfl (by first | exact Or.inl rfl | exact Or.inr rfl) (pe_op op_mod (pe_op op_mulZ (pe_op (op_addZ (K := K) rfl) (pe_op (op_addZ (K := K) rfl) (pv 0) (pe_op op_mulZ pe_int (pv 1))) pe_int) pe_int) pe_int))
      (pss_cons (ps_set (i := 2) sc_l_mixed.nd rfl (by first | exact Or.inl rfl | exact Or.inr rfl) (pe_op op_mod (pe_op op_mulZ (pv 2) (pe_op (op_addZ (K := K) rfl) (pe_op op_fdiv (pv 2) pe_int) pe_int)) pe_int))
      (pss_one (ps_ret (pe_op op_mod (pe_op op_mulZ (pv 2) (pe_op (op_addZ (K := K) rfl) (pe_op (op_addZ (K := K) rfl) (pe_op op_fdiv (pv 2) pe_int) pe_int) (pv 1))) pe_int))))))), ?_⟩
    walk_at "z0"
    refine z_if (fun _ => ?_) (fun _ => ?_)
    · walk_at "z"
      refine z_if (fun _ => ?_) (fun _ => ?_)
      · walk_at "z"
        refine z_if (fun _ => ?_) (fun _ => ?_)
        · walk_at "z"
          exact q _ (by omega) (by omega)
        · walk_at "z"
          exact q _ (by omega) (by omega)
      · walk_at "z"
        exact q _ (by omega) (by omega)
    · walk_at "z"
      exact q _ (by omega) (by omega)
theorem call_mixed {H : Hp} {Q : VK} {E : XK} {c k : Int} (h0 : 0 ≤ k) (h1 : k ≤ 10000) (q : ∀ n : Int, 0 ≤ n → n < 2147483648 → Q (.int n) H) : spMixed [.int c, .int k] H Q E := ⟨c, k, rfl, h0, h1, q⟩

/-! ### the sum, in plain Lean -/
def stp (f : Nat) : Nat := if f &&& 32768 = 0 then f * 2 else ((f ^^^ 32768) * 2) ^^^ 4129
def itr : Nat → Nat → Nat
  | 0, x => x
  | n + 1, x => stp (itr n x)
def byt8 (f : Nat) (b : Int) : Nat := itr 8 (f ^^^ (b.toNat * 256))
def crcN (f : Nat) (ns : List Int) : Nat := ns.foldl byt8 f
theorem bit_top (i : Nat) : (32768 : Nat).testBit i = decide (15 = i) := Nat.testBit_two_pow (n := 15) (m := i)
theorem top_zero (f : Nat) : f &&& 32768 = 0 ↔ f.testBit 15 = false := by
  constructor
  · intro h
    have e : (f &&& 32768).testBit 15 = (0 : Nat).testBit 15 := by rw [h]
    rw [Nat.testBit_and, bit_top] at e
    simpa using e
  · intro h
    refine Nat.eq_of_testBit_eq fun i => ?_
    rw [Nat.testBit_and, bit_top, Nat.zero_testBit]
    by_cases e : 15 = i
    · subst e; rw [h] <;> rfl
    · simp [e]
theorem bit_mul2 (x i : Nat) : (x * 2).testBit i = (decide (1 ≤ i) && x.testBit (i - 1)) := by
  have e : x * 2 = x <<< 1 := by rw [Nat.shiftLeft_eq]
  rw [e, Nat.testBit_shiftLeft]
theorem hi_false {f n i : Nat} (h : f < 2 ^ n) (hi : n ≤ i) : f.testBit i = false := Nat.testBit_lt_two_pow (Nat.lt_of_lt_of_le h (Nat.pow_le_pow_right (by decide) hi))
theorem stp_bit {f : Nat} (hf : f < 2 ^ 16) (i : Nat) : (stp f).testBit i = ((decide (1 ≤ i ∧ i < 16) && f.testBit (i - 1)) ^^ (f.testBit 15 && (4129 : Nat).testBit i)) := by
  unfold stp
  by_cases h : f &&& 32768 = 0
  · rw [if_pos h, bit_mul2]
    have ht := (top_zero f).mp h
    rw [ht]
    by_cases h16 : i < 16
    · simp [h16]
    · have : f.testBit (i - 1) = false := by
        by_cases e : i = 16
        · subst e; exact ht
        · exact hi_false hf (by omega)
      simp [this]
  · rw [if_neg h, Nat.testBit_xor, bit_mul2, Nat.testBit_xor, bit_top]
    have ht : f.testBit 15 = true := by
      cases q : f.testBit 15 with
      | true => rfl
      | false => exact absurd ((top_zero f).mpr q) h
    rw [ht]
    by_cases h1 : 1 ≤ i
    · by_cases h16 : i < 16
      · have : ¬ 15 = i - 1 := by omega
        simp [h1, h16, this]
      · by_cases e : i = 16
        · subst e; simp [ht]
        · have q : f.testBit (i - 1) = false := hi_false hf (by omega)
          have : ¬ 15 = i - 1 := by omega
          simp [h16, q, this]
    · simp [h1]
theorem lt_of_bits {x n : Nat} (h : ∀ i, n ≤ i → x.testBit i = false) : x < 2 ^ n := Nat.lt_pow_two_of_testBit x h
theorem feed_hi {i : Nat} (h : 16 ≤ i) : (4129 : Nat).testBit i = false := hi_false (n := 16) (by decide) h
theorem stp_lt {f : Nat} (hf : f < 2 ^ 16) : stp f < 2 ^ 16 := lt_of_bits fun i hi => by
  rw [stp_bit hf, feed_hi hi]
  have : ¬ i < 16 := by omega
  simp [this]
theorem itr_lt {f : Nat} (hf : f < 2 ^ 16) : ∀ n, itr n f < 2 ^ 16
  | 0 => hf
  | n + 1 => stp_lt (itr_lt hf n)
theorem xor_byte_lt {f : Nat} {b : Int} (hf : f < 2 ^ 16) (hb : 0 ≤ b ∧ b < 256) : f ^^^ (b.toNat * 256) < 2 ^ 16 := Nat.xor_lt_two_pow hf (by omega)
theorem byt8_lt {f : Nat} {b : Int} (hf : f < 2 ^ 16) (hb : 0 ≤ b ∧ b < 256) : byt8 f b < 2 ^ 16 := itr_lt (xor_byte_lt hf hb) 8
theorem crcN_lt : ∀ {ns : List Int} {f : Nat}, f < 2 ^ 16 → Z.Byt ns → crcN f ns < 2 ^ 16
  | [], _, hf, _ => hf
  | b :: ns, f, hf, hb => crcN_lt (ns := ns) (byt8_lt hf (hb b (List.mem_cons_self))) fun n h => hb n (List.mem_cons_of_mem _ h)
theorem crcN_app (f : Nat) (xs ys : List Int) : crcN f (xs ++ ys) = crcN (crcN f xs) ys := List.foldl_append
theorem take_more {α : Type} {l : List α} {i : Nat} {x : α} (h : l[i]? = some x) : l.take (i + 1) = l.take i ++ [x] := by rw [List.take_add_one, h] <;> rfl
theorem crcN_more {ns : List Int} {i : Nat} {b : Int} {f : Nat} (h : ns[i]? = some b) : crcN f (ns.take (i + 1)) = byt8 (crcN f (ns.take i)) b := by
  rw [take_more h, crcN_app] <;> rfl
theorem byt_take {ns : List Int} {i : Nat} (h : Z.Byt ns) : Z.Byt (ns.take i) := fun n hn => h n (List.mem_of_mem_take hn)
theorem byt_at {ns : List Int} {i : Nat} {b : Int} (h : Z.Byt ns) (e : ns[i]? = some b) : 0 ≤ b ∧ b < 256 := h b (List.mem_of_getElem? e)
theorem stp_int0 {x : Nat} (h : Builtin.bitAnd (x : Int) 32768 = 0) : (x : Int) * 2 ^ (1 : Int).toNat = ((stp x : Nat) : Int) := by
  have e : Builtin.bitAnd (x : Int) 32768 = ((x &&& 32768 : Nat) : Int) := Z.and_nat x 32768
  rw [e] at h
  have h' : x &&& 32768 = 0 := by omega
  unfold stp
  rw [if_pos h']
  simp
theorem stp_int1 {x : Nat} (h : ¬ Builtin.bitAnd (x : Int) 32768 = 0) : Builtin.bitXor (Builtin.bitXor (x : Int) 32768 * 2 ^ (1 : Int).toNat) 4129 = ((stp x : Nat) : Int) := by
  have e : Builtin.bitAnd (x : Int) 32768 = ((x &&& 32768 : Nat) : Int) := Z.and_nat x 32768
  rw [e] at h
  have h' : ¬ x &&& 32768 = 0 := by omega
  have e1 : Builtin.bitXor (x : Int) 32768 = ((x ^^^ 32768 : Nat) : Int) := Z.xor_nat x 32768
  have e2 : ((x ^^^ 32768 : Nat) : Int) * 2 ^ (1 : Int).toNat = (((x ^^^ 32768) * 2 : Nat) : Int) := by simp
  have e3 : Builtin.bitXor (((x ^^^ 32768) * 2 : Nat) : Int) 4129 = ((((x ^^^ 32768) * 2) ^^^ 4129 : Nat) : Int) := Z.xor_nat _ 4129
  unfold stp
  rw [if_neg h', e1, e2, e3]
theorem byte_int {f : Nat} {b : Int} (hb : 0 ≤ b ∧ b < 256) : Builtin.bitXor (f : Int) (b * 2 ^ (8 : Int).toNat) = ((f ^^^ (b.toNat * 256) : Nat) : Int) := by
  have e : b * 2 ^ (8 : Int).toNat = ((b.toNat * 256 : Nat) : Int) := by
    have : ((8 : Int).toNat) = 8 := rfl
    rw [this]
    omega
  rw [e]
  exact Z.xor_nat _ _

/-! ### the sum's defs -/
def spCrcOn (K : PySem.W.Frag) : Sp := fun vs H Q _ => ∃ (f : Nat) (a : Addr) (ns : List Int), vs = [.int (f : Int), .ref a] ∧ f < 2 ^ 16 ∧ SqL K H a (ns.map V.int) ∧ Byt ns ∧ Q (.int ((crcN f ns : Nat) : Int)) H
def spCrc (K : PySem.W.Frag) : Sp := fun vs H Q _ => ∃ (a : Addr) (ns : List Int), vs = [.ref a] ∧ SqL K H a (ns.map V.int) ∧ Byt ns ∧ Q (.int ((crcN 65535 ns : Nat) : Int)) H
def crcRow (ns : List Int) : List Int := [((crcN 65535 ns / 256 : Nat) : Int), ((crcN 65535 ns % 256 : Nat) : Int)]
def spCrcRow (K : PySem.W.Frag) : Sp := fun vs H Q _ => ∃ (a : Addr) (ns : List Int), vs = [.ref a] ∧ SqL K H a (ns.map V.int) ∧ Byt ns ∧ ∀ p, H p = none → Q (.ref p) (upd H p (.lst ((crcRow ns).map V.int)))
section
variable {P : Program} {w : World} {K : PySem.W.Frag} {mg : Str → Option Value} {base : Heap}
theorem ok_crc_on (T : Tx K mg) : FnOk P w K mg base CX0 1 T.a_crc_on T.d_crc_on ["begun", "row"] (spCrcOn K) := by
  refine T.F_crc_on.ok sc_crc_on (fun vs H Q E h => ?_) (fun cdv A outer s H vs Q E hr h => ?_)
  · obtain ⟨f, a, ns, rfl, _⟩ := h; rfl
  · obtain ⟨f, a, ns, rfl, hf, hS, hB, q⟩ := h
    refine ⟨_, (pss_gc (pss_cons (ps_set (i := 2) sc_crc_on.nd rfl (by first | exact Or.inl rfl | exact Or.inr rfl) (pv 0))
      (pss_cons (ps_forZ PassesOwn.never rfl (pi_listZ (K := K) rfl (pv 1)) (pg_name (i := 3) sc_crc_on.nd rfl (by first | exact Or.inl rfl | exact Or.inr rfl)) (pss_cons (ps_set (i := 2) sc_crc_on.nd rfl (by first | exact Or.inl rfl | exact Or.inr rfl) (pe_op op_xor (pv 2) (pe_op op_shl (pv 3) pe_int)))
      (pss_one (ps_forZ PassesOwn.never rfl (pi_range1 rfl T.z_range (pa_cons pe_int pa_nil)) (pg_name (i := 4) sc_crc_on.nd rfl (by first | exact Or.inl rfl | exact Or.inr rfl)) (pss_one (ps_if (pt_truthZ (K := K) rfl (pe_op op_and (pv 2) (pe_glob rfl T.m_TOP T.r_TOP)) (by intro _; rfl)) (pss_one (ps_set (i := 2) sc_crc_on.nd rfl (by first | exact Or.inl rfl | exact Or.inr rfl) (pe_op op_xor (pe_op op_shl (pe_op op_xor (pv 2) (pe_glob rfl T.m_TOP T.r_TOP)) pe_int) (pe_glob rfl T.m_FEED T.r_FEED)))) (pss_one (ps_set (i := 2) sc_crc_on.nd rfl (by first | exact Or.inl rfl | exact Or.inr rfl) (pe_op op_shl (pv 2) pe_int)))))))))
      (pss_one (ps_ret (pv 2)))))), ?_⟩
    walk_at "z0"
    refine ⟨_, rfl, ⟨_, hS⟩, f_ints (ns := ns) (fun i σ' H' => ∃ v1 v2, σ' = [some (.int (f : Int)), some (.ref a), some (.int ((crcN f (ns.take i) : Nat) : Int)), v1, v2] ∧ H' = H) ⟨none, none, rfl, rfl⟩ (fun _ _ _ _ ⟨_, _, _, e⟩ => e ▸ hS) ?_ ?_⟩
    · rintro i b σ' H' hi ⟨v1, v2, rfl, rfl⟩
      have hb := byt_at hB hi
      walk_at "z"
      rw [byte_int hb]
      have hx := xor_byte_lt (crcN_lt (ns := ns.take i) hf (byt_take hB)) hb
      rw [crcN_more hi]
      unfold byt8
      generalize crcN f (ns.take i) ^^^ b.toNat * 256 = x at hx
      refine f_range (fun k σ' H'' => ∃ v, σ' = [some (.int (f : Int)), some (.ref a), some (.int ((itr k x : Nat) : Int)), some (.int b), v] ∧ H'' = H') ⟨v2, rfl, rfl⟩ ?_ ?_
      · rintro k σ' H'' hk ⟨v, rfl, rfl⟩
        have hlt := itr_lt hx k
        have hx1 : Builtin.bitXor ((itr k x : Nat) : Int) 32768 = ((itr k x ^^^ 32768 : Nat) : Int) := Z.xor_nat _ 32768
        have hx2 : itr k x ^^^ 32768 < 2 ^ 16 := Nat.xor_lt_two_pow hlt (by decide)
        walk_at "z"
        refine z_ifn (fun h => ?_) (fun h => ?_)
        · walk_at "z"
          rw [stp_int1 h]
          exact ⟨_, rfl, rfl⟩
        · walk_at "z"
          rw [stp_int0 h]
          exact ⟨_, rfl, rfl⟩
      · rintro σ' H'' ⟨v, rfl, rfl⟩
        walk_at "z"
        exact ⟨_, _, rfl, rfl⟩
    · rintro σ' H' ⟨v1, v2, rfl, rfl⟩
      walk_at "z"
      rw [List.take_length]
      exact q

theorem call_crc_on {H : Hp} {Q : VK} {E : XK} {f : Nat} {a : Addr} {ns : List Int} (hf : f < 2 ^ 16) (hS : SqL K H a (ns.map V.int)) (hB : Byt ns) (q : Q (.int ((crcN f ns : Nat) : Int)) H) : spCrcOn K [.int (f : Int), .ref a] H Q E := ⟨f, a, ns, rfl, hf, hS, hB, q⟩
theorem call_crc {H : Hp} {Q : VK} {E : XK} {a : Addr} {ns : List Int} (hS : SqL K H a (ns.map V.int)) (hB : Byt ns) (q : Q (.int ((crcN 65535 ns : Nat) : Int)) H) : spCrc K [.ref a] H Q E := ⟨a, ns, rfl, hS, hB, q⟩
theorem call_crc_row {H : Hp} {Q : VK} {E : XK} {a : Addr} {ns : List Int} (hS : SqL K H a (ns.map V.int)) (hB : Byt ns) (q : ∀ p, H p = none → Q (.ref p) (upd H p (.lst ((crcRow ns).map V.int)))) : spCrcRow K [.ref a] H Q E := ⟨a, ns, rfl, hS, hB, q⟩
theorem ok_crc (T : Tx K mg) : FnOk P w K mg base CX0 2 T.a_crc T.d_crc ["row"] (spCrc K) := by
  refine T.F_crc.ok sc_crc (fun vs H Q E h => ?_) (fun cdv A outer s H vs Q E hr h => ?_)
  · obtain ⟨a, ns, rfl, _⟩ := h; rfl
  · obtain ⟨a, ns, rfl, hS, hB, q⟩ := h
    refine ⟨_, (pss_gc (pss_one (ps_ret (pe_callZ (ok_crc_on T) (hr.mono (by decide)) (by rfl) T.g_crc_on T.F_crc_on.kp T.b_crc_on pass0 (pa_cons (pe_glob rfl T.m_BEGIN T.r_BEGIN) (pa_cons (pv 0) pa_nil)))))), ?_⟩
    walk_at "z0"
    refine call_crc_on (f := 65535) (by decide) hS hB ?_
    walk_at "z"
    exact q
theorem crcRow_int {n : Nat} (h : n < 2 ^ 16) : (n : Int) / 2 ^ (8 : Int).toNat = ((n / 256 : Nat) : Int) ∧ Builtin.bitAnd (n : Int) 255 = ((n % 256 : Nat) : Int) := by
  constructor
  · have : ((8 : Int).toNat) = 8 := rfl
    rw [this]
    omega
  · have e : Builtin.bitAnd (n : Int) 255 = ((n &&& 255 : Nat) : Int) := Z.and_nat n 255
    rw [e]
    have := Nat.and_two_pow_sub_one_eq_mod n 8
    rw [show (2 ^ 8 - 1 : Nat) = 255 from rfl] at this
    rw [this]
theorem ok_crc_row (T : Tx K mg) : FnOk P w K mg base CX0 3 T.a_crc_row T.d_crc_row ["row"] (spCrcRow K) := by
  refine T.F_crc_row.ok sc_crc_row (fun vs H Q E h => ?_) (fun cdv A outer s H vs Q E hr h => ?_)
  · obtain ⟨a, ns, rfl, _⟩ := h; rfl
  · obtain ⟨a, ns, rfl, hS, hB, q⟩ := h
    refine ⟨_, (pss_gc (pss_cons (ps_set (i := 1) sc_crc_row.nd rfl (by first | exact Or.inl rfl | exact Or.inr rfl) (pe_callZ (ok_crc T) (hr.mono (by decide)) (by rfl) T.g_crc T.F_crc.kp T.b_crc pass0 (pa_cons (pv 0) pa_nil)))
      (pss_one (ps_ret (pe_lst (pa_cons (pe_op op_shr (pv 1) pe_int) (pa_cons (pe_op op_and (pv 1) pe_int) pa_nil))))))), ?_⟩
    walk_at "z0"
    refine call_crc hS hB ?_
    walk_at "z"
    obtain ⟨e1, e2⟩ := crcRow_int (crcN_lt (f := 65535) (by decide) hB)
    rw [e1, e2]
    refine ⟨by show 2 ≤ sizeLine; decide, fun p hp => ?_⟩
    exact z_gcN hp rfl (q p hp)
end

/-! ### the division without carry, in plain Lean -/
def bi (b : Bool) : Int := if b then 1 else 0
def mk (n : Nat) (b : Nat → Bool) : List Int := (List.range n).map fun i => bi (b i)
theorem mk_len (n : Nat) (b : Nat → Bool) : (mk n b).length = n := by simp [mk]
theorem mk_get {n i : Nat} {b : Nat → Bool} (h : i < n) : (mk n b).getD i 0 = bi (b i) := by
  simp [mk, List.getD, h]
theorem mk_set {n i : Nat} {b : Nat → Bool} {c : Bool} (h : i < n) : (mk n b).set i (bi c) = mk n (fun j => if j = i then c else b j) := by
  apply List.ext_getElem
  · simp [mk]
  · intro j h1 h2
    simp only [mk, List.getElem_set, List.getElem_map, List.getElem_range]
    by_cases e : i = j
    · subst e; simp
    · have : ¬ j = i := fun z => e z.symm
      simp [e, this]
theorem mk_congr {n : Nat} {b c : Nat → Bool} (h : ∀ i, i < n → b i = c i) : mk n b = mk n c := by
  unfold mk
  apply List.map_congr_left
  intro i hi
  rw [h i (List.mem_range.mp hi)]
theorem mk_add (n k : Nat) (b : Nat → Bool) : mk (n + k) b = mk n b ++ mk k (fun i => b (n + i)) := by
  unfold mk
  rw [List.range_add, List.map_append, List.map_map] <;> rfl
/-- the bits of a row -/
def mb (ns : List Int) (k : Nat) : Bool := (ns.getD (k / 8) 0).toNat.testBit (7 - k % 8)
theorem mb_out {ns : List Int} {k : Nat} (h : 8 * ns.length ≤ k) : mb ns k = false := by
  unfold mb
  have : ns.length ≤ k / 8 := by omega
  simp [List.getD, List.getElem?_eq_none this]
theorem mb_at {ns : List Int} {i t : Nat} {b : Int} (h : ns[i]? = some b) (ht : t < 8) : mb ns (8 * i + t) = b.toNat.testBit (7 - t) := by
  unfold mb
  have e1 : (8 * i + t) / 8 = i := by omega
  have e2 : (8 * i + t) % 8 = t := by omega
  rw [e1, e2]
  simp [List.getD, h]
theorem bit_int {n : Int} {t : Nat} (h : 0 ≤ n) : Builtin.bitAnd (n / 2 ^ t) 1 = bi (n.toNat.testBit t) := by
  obtain ⟨m, rfl⟩ := Int.eq_ofNat_of_zero_le h
  have e1 : ((m : Int) / 2 ^ t) = ((m / 2 ^ t : Nat) : Int) := by
    rw [Int.natCast_ediv]
    first | done | (congr 1; exact PyProof.Rows.two_pow_cast t) | simp
  have e : Builtin.bitAnd ((m / 2 ^ t : Nat) : Int) 1 = (((m / 2 ^ t) &&& 1 : Nat) : Int) := Z.and_nat _ 1
  rw [e1, e, Nat.and_one_is_mod]
  have h2 : (m.testBit t).toNat = m / 2 ^ t % 2 := Nat.toNat_testBit m t
  rw [← h2]
  show ((m.testBit t).toNat : Int) = bi ((m : Int).toNat.testBit t)
  rw [Int.toNat_natCast]
  cases m.testBit t <;> rfl
/-- the first number put to it -/
def b1 (ns : List Int) (f k : Nat) : Nat → Bool := fun j => mb ns j ^^ (decide (j < k) && f.testBit (15 - j))
theorem b1_next (ns : List Int) (f k j : Nat) : b1 ns f (k + 1) j = if j = k then (mb ns k ^^ f.testBit (15 - k)) else b1 ns f k j := by
  unfold b1
  by_cases e : j = k
  · subst e; simp
  · by_cases l : j < k
    · have : j < k + 1 := by omega
      simp [e, l, this]
    · have : ¬ j < k + 1 := by omega
      simp [e, l, this]
/-- turned at places behind k -/
def flip (S : List Nat) (k : Nat) (b : Nat → Bool) : Nat → Bool := fun j => b j ^^ decide (∃ s ∈ S, j = k + s)
def b2 (ns : List Int) (f : Nat) : Nat → Nat → Bool
  | 0 => b1 ns f 16
  | k + 1 => if b2 ns f k k = true then flip [0, 4, 11, 16] k (b2 ns f k) else b2 ns f k
theorem flip_nil (k : Nat) (b : Nat → Bool) : flip [] k b = b := by funext j; simp [flip]
theorem feed_bit {i : Nat} (h : i < 16) : (4129 : Nat).testBit (15 - i) = decide (i = 3 ∨ i = 10 ∨ i = 15) := by
  have : i = 0 ∨ i = 1 ∨ i = 2 ∨ i = 3 ∨ i = 4 ∨ i = 5 ∨ i = 6 ∨ i = 7 ∨ i = 8 ∨ i = 9 ∨ i = 10 ∨ i = 11 ∨ i = 12 ∨ i = 13 ∨ i = 14 ∨ i = 15 := by omega
  rcases this with rfl | rfl | rfl | rfl | rfl | rfl | rfl | rfl | rfl | rfl | rfl | rfl | rfl | rfl | rfl | rfl <;> decide
theorem flip_at {k j : Nat} {b : Nat → Bool} : flip [0, 4, 11, 16] k b (k + 1 + j) = (b (k + 1 + j) ^^ decide (j = 3 ∨ j = 10 ∨ j = 15)) := by
  unfold flip
  congr 1
  apply decide_eq_decide.mpr
  simp
  omega
theorem flip_far {k j : Nat} {b : Nat → Bool} (h : k + 17 ≤ j) : flip [0, 4, 11, 16] k b j = b j := by
  unfold flip
  have : ¬ ∃ s ∈ [0, 4, 11, 16], j = k + s := by simp; omega
  simp only [this, decide_false, Bool.xor_false]
/-- the register against the row of bits, at any bit -/
structure At (ns : List Int) (f k t g : Nat) : Prop where
  lt : g < 2 ^ 16
  near : ∀ i, i < 16 → b2 ns f k (k + i) = (g.testBit (15 - i) ^^ (decide (8 ≤ t + i) && mb ns (k + i)))
  far : ∀ j, k + 16 ≤ j → b2 ns f k j = mb ns j
theorem At.step {ns : List Int} {f k t g : Nat} (h : At ns f k t g) (ht : t < 8) : At ns f (k + 1) (t + 1) (stp g) := by
  have top : b2 ns f k k = g.testBit 15 := by
    have := h.near 0 (by decide)
    have nt : ¬ 8 ≤ t := by omega
    rw [show k + 0 = k from rfl] at this
    rw [this]
    simp [nt]
  refine ⟨stp_lt h.lt, fun i hi => ?_, fun j hj => ?_⟩
  · rw [stp_bit h.lt, feed_bit hi]
    have key : b2 ns f (k + 1) (k + 1 + i) = (b2 ns f k (k + 1 + i) ^^ (g.testBit 15 && decide (i = 3 ∨ i = 10 ∨ i = 15))) := by
      show (if b2 ns f k k = true then flip [0, 4, 11, 16] k (b2 ns f k) else b2 ns f k) (k + 1 + i) = _
      rw [top]
      cases g.testBit 15 with
      | true => rw [if_pos rfl, flip_at] <;> rfl
      | false => rw [if_neg Bool.false_ne_true]; simp
    rw [key]
    by_cases h15 : i = 15
    · subst h15
      rw [h.far (k + 1 + 15) (by omega)]
      have : decide (8 ≤ t + 1 + 15) = true := decide_eq_true (by omega)
      rw [this]
      cases g.testBit 15 <;> cases mb ns (k + 1 + 15) <;> rfl
    · have e := h.near (i + 1) (by omega)
      rw [show k + (i + 1) = k + 1 + i by omega, show t + (i + 1) = t + 1 + i by omega, show 15 - (i + 1) = 15 - i - 1 by omega] at e
      rw [e]
      have : decide (1 ≤ 15 - i ∧ 15 - i < 16) = true := decide_eq_true (by omega)
      rw [this]
      cases g.testBit (15 - i - 1) <;> cases g.testBit 15 <;> cases mb ns (k + 1 + i) <;> cases decide (8 ≤ t + 1 + i) <;> cases decide (i = 3 ∨ i = 10 ∨ i = 15) <;> rfl
  · show (if b2 ns f k k = true then flip [0, 4, 11, 16] k (b2 ns f k) else b2 ns f k) j = _
    have e := h.far j (by omega)
    split
    · rw [flip_far (by omega)]; exact e
    · exact e
theorem At.steps {ns : List Int} {f k g : Nat} (h : At ns f k 0 g) : ∀ t, t ≤ 8 → At ns f (k + t) t (itr t g)
  | 0, _ => h
  | t + 1, ht => (At.steps h t (by omega)).step (by omega)
theorem At.byte {ns : List Int} {f i : Nat} {b : Int} {g : Nat} (h : At ns f (8 * i) 8 g) (e : ns[i]? = some b) (hb : 0 ≤ b ∧ b < 256) : At ns f (8 * (i + 1)) 8 (byt8 g b) := by
  have h0 : At ns f (8 * i) 0 (g ^^^ (b.toNat * 256)) := by
    refine ⟨xor_byte_lt h.lt hb, fun j hj => ?_, h.far⟩
    rw [h.near j hj, Nat.testBit_xor]
    have e8 : (b.toNat * 256).testBit (15 - j) = (decide (j < 8) && mb ns (8 * i + j)) := by
      rw [show 256 = 2 ^ 8 from rfl, Nat.testBit_mul_two_pow]
      by_cases l : j < 8
      · rw [mb_at e l, show 15 - j - 8 = 7 - j by omega]
        have : decide (8 ≤ 15 - j) = true := decide_eq_true (by omega)
        simp [l]
        intro z; omega
      · have : ¬ 8 ≤ 15 - j := by omega
        simp [l, this]
    rw [e8]
    have : decide (8 ≤ 8 + j) = true := decide_eq_true (by omega)
    rw [this]
    by_cases l : j < 8
    · have l2 : ¬ 8 ≤ 0 + j := by omega
      simp only [l, l2, decide_true, decide_false]
      cases g.testBit (15 - j) <;> cases mb ns (8 * i + j) <;> rfl
    · have l2 : 8 ≤ 0 + j := by omega
      simp only [l, l2, decide_true, decide_false]
      cases g.testBit (15 - j) <;> cases mb ns (8 * i + j) <;> rfl
  have := h0.steps 8 (Nat.le_refl 8)
  rw [show 8 * (i + 1) = 8 * i + 8 by omega]
  exact this
theorem At.start {ns : List Int} {f : Nat} (hf : f < 2 ^ 16) : At ns f 0 8 f := by
  refine ⟨hf, fun i hi => ?_, fun j hj => ?_⟩
  · show b1 ns f 16 (0 + i) = _
    unfold b1
    have : decide (8 ≤ 8 + i) = true := decide_eq_true (by omega)
    rw [this, Nat.zero_add]
    simp only [hi, decide_true, Bool.true_and]
    cases mb ns i <;> cases f.testBit (15 - i) <;> rfl
  · show b1 ns f 16 j = _
    unfold b1
    have : ¬ j < 16 := by omega
    simp [this]
theorem At.all {ns : List Int} {f : Nat} (hf : f < 2 ^ 16) (hB : Z.Byt ns) : ∀ i, i ≤ ns.length → At ns f (8 * i) 8 (crcN f (ns.take i))
  | 0, _ => At.start hf
  | i + 1, hi => by
    have e : ns[i]? = some ns[i] := List.getElem?_eq_getElem (by omega)
    rw [crcN_more e]
    exact (At.all hf hB i (by omega)).byte e (byt_at hB e)
theorem due_bit {ns : List Int} {f i : Nat} (hf : f < 2 ^ 16) (hB : Z.Byt ns) (hi : i < 16) : b2 ns f (8 * ns.length) (8 * ns.length + i) = (crcN f ns).testBit (15 - i) := by
  have h := At.all hf hB ns.length (Nat.le_refl _)
  rw [List.take_length] at h
  rw [h.near i hi, mb_out (by omega)]
  simp
/-- sixteen bits make the number -/
theorem sum_bitsN (x : Nat) : ∀ n, (((List.range n).map fun k => bi (x.testBit (n - 1 - k)) * 2 ^ (n - 1 - k)) : List Int).sum = ((x % 2 ^ n : Nat) : Int)
  | 0 => by simp [Nat.mod_one]
  | n + 1 => by
    have ih := sum_bitsN x n
    rw [List.range_succ_eq_map, List.map_cons, List.sum_cons, List.map_map]
    have e1 : ((fun k => bi (x.testBit (n + 1 - 1 - k)) * 2 ^ (n + 1 - 1 - k)) ∘ Nat.succ : Nat → Int) = fun k => bi (x.testBit (n - 1 - k)) * 2 ^ (n - 1 - k) := by
      funext k
      show bi (x.testBit (n + 1 - 1 - (k + 1))) * 2 ^ (n + 1 - 1 - (k + 1)) = _
      rw [show n + 1 - 1 - (k + 1) = n - 1 - k by omega]
    rw [e1, ih, Nat.mod_pow_succ, show n + 1 - 1 - 0 = n by omega]
    have h2 : (x.testBit n).toNat = x / 2 ^ n % 2 := Nat.toNat_testBit x n
    have e2 : bi (x.testBit n) = ((x / 2 ^ n % 2 : Nat) : Int) := by
      rw [← h2]
      cases x.testBit n <;> rfl
    rw [e2, Int.natCast_add, Int.natCast_mul, Int.natCast_pow]
    have e3 : ((2 : Nat) : Int) = 2 := rfl
    rw [e3, Int.mul_comm, Int.add_comm]
theorem sum_bits {x : Nat} (h : x < 2 ^ 16) : (((List.range 16).map fun k => bi (x.testBit (15 - k)) * 2 ^ (15 - k)) : List Int).sum = (x : Int) := by
  have e := sum_bitsN x 16
  rw [Nat.mod_eq_of_lt h] at e
  exact e
/-- the sum behind its row -/
theorem itr_small {x : Nat} : ∀ n, n ≤ 16 → x < 2 ^ (16 - n) → itr n x = x * 2 ^ n
  | 0, _, _ => by simp [itr]
  | n + 1, hn, hx => by
    have hx2 : x < 2 ^ (16 - n) := Nat.lt_of_lt_of_le hx (Nat.pow_le_pow_right (by decide) (by omega))
    have ih := itr_small (x := x) n (by omega) hx2
    show stp (itr n x) = _
    rw [ih]
    have hlt : x * 2 ^ n < 2 ^ 15 := by
      have e : 2 ^ 15 = 2 ^ (16 - (n + 1)) * 2 ^ n := by rw [← Nat.pow_add]; congr 1; omega
      rw [e]
      exact Nat.mul_lt_mul_of_pos_right hx (Nat.two_pow_pos n)
    unfold stp
    rw [if_pos ((top_zero _).mpr (Nat.testBit_lt_two_pow hlt)), Nat.pow_succ, Nat.mul_assoc]
theorem itr_zero : ∀ n, itr n 0 = 0
  | 0 => rfl
  | n + 1 => by show stp (itr n 0) = 0; rw [itr_zero n]; rfl
theorem clear_top {f : Nat} (h : f < 2 ^ 16) : f ^^^ (f / 256 * 256) = f % 256 := by
  refine Nat.eq_of_testBit_eq fun i => ?_
  rw [Nat.testBit_xor, show (256 : Nat) = 2 ^ 8 from rfl, Nat.testBit_mul_two_pow, Nat.testBit_div_two_pow, Nat.testBit_mod_two_pow]
  by_cases l : i < 8
  · have : ¬ 8 ≤ i := by omega
    simp [l, this]
  · have : 8 ≤ i := by omega
    simp [l, this]
theorem crc_zero {ns : List Int} (hB : Z.Byt ns) : crcN 65535 (ns ++ crcRow ns) = 0 := by
  rw [crcN_app]
  have hf := crcN_lt (f := 65535) (by decide) hB
  unfold crcRow
  generalize crcN 65535 ns = f at hf
  show byt8 (byt8 f ((f / 256 : Nat) : Int)) ((f % 256 : Nat) : Int) = 0
  unfold byt8
  rw [Int.toNat_natCast, Int.toNat_natCast, clear_top hf, itr_small 8 (by decide) (show f % 256 < 2 ^ (16 - 8) by omega), show f % 256 * 2 ^ 8 = f % 256 * 256 from rfl, Nat.xor_self, itr_zero]

theorem xor_bi (a b : Bool) : Builtin.bitXor (bi a) (bi b) = bi (a ^^ b) := by cases a <;> cases b <;> decide
theorem sub_bi (a : Bool) : 1 - bi a = bi (!a) := by cases a <;> decide
theorem bi_one (a : Bool) : bi a = 1 ↔ a = true := by cases a <;> decide
section
variable {K : PySem.W.Frag} {H H0 : Hp} {p : Addr} {n j : Nat} {b : Nat → Bool} {i : Int} {Q : VK} {R : Hp → Prop} {c : Bool}
theorem rd_mk (hp : SqL K H p ((mk n b).map V.int)) (hi : i = (j : Int)) (hj : j < n) (q : Q (.int (bi (b j))) H) : rIx K (.ref p) (.int i) H Q := by
  subst hi
  refine z_ixI hp (by omega) (by rw [mk_len]; omega) ?_
  rw [Int.toNat_natCast, mk_get hj]
  exact q
theorem st_mk (hi : i = (j : Int)) (hj : j < n) (r : R (upd H p (.lst ((mk n (fun t => if t = j then c else b t)).map V.int)))) : rSetL (.ref p) (.int i) (.int (bi c)) (upd H p (.lst ((mk n b).map V.int))) R := by
  subst hi
  refine z_setI upd_same (by omega) (by rw [mk_len]; omega) ?_
  rw [Int.toNat_natCast, mk_set hj, upd_upd]
  exact r
end
theorem flip_more (S : List Nat) (s k : Nat) (b : Nat → Bool) (h : s ∉ S) (j : Nat) : flip (S ++ [s]) k b j = if j = k + s then !(flip S k b (k + s)) else flip S k b j := by
  unfold flip
  by_cases e : j = k + s
  · subst e
    have h1 : (∃ s_1, s_1 ∈ S ++ [s] ∧ k + s = k + s_1) := ⟨s, by simp, rfl⟩
    have h2 : ¬ ∃ s_1, s_1 ∈ S ∧ k + s = k + s_1 := fun ⟨t, ht, e⟩ => h ((show s = t by omega) ▸ ht)
    rw [if_pos rfl, decide_eq_true h1, decide_eq_false h2]
    cases b (k + s) <;> rfl
  · rw [if_neg e]
    congr 1
    apply decide_eq_decide.mpr
    constructor
    · rintro ⟨t, ht, e2⟩
      rcases List.mem_append.mp ht with z | z
      · exact ⟨t, z, e2⟩
      · have : t = s := by simpa using z
        subst this; exact absurd e2 e
    · rintro ⟨t, ht, e2⟩
      exact ⟨t, List.mem_append_left _ ht, e2⟩

theorem four_at {t : Nat} {n : Int} (h : ([0, 4, 11, 16] : List Int)[t]? = some n) : ∃ s : Nat, n = (s : Int) ∧ s ≤ 16 ∧ ([0, 4, 11, 16] : List Nat).take (t + 1) = ([0, 4, 11, 16] : List Nat).take t ++ [s] ∧ s ∉ ([0, 4, 11, 16] : List Nat).take t := by
  match t, h with
  | 0, h => exact ⟨0, by simpa using h.symm, by decide, by decide, by decide⟩
  | 1, h => exact ⟨4, by simpa using h.symm, by decide, by decide, by decide⟩
  | 2, h => exact ⟨11, by simpa using h.symm, by decide, by decide, by decide⟩
  | 3, h => exact ⟨16, by simpa using h.symm, by decide, by decide, by decide⟩
  | t + 4, h => simp at h

def spWhole : Sp := fun vs H Q _ => ∃ i : Int, vs = [.int i] ∧ Q (.bl true) H
def spRow : Sp := fun vs H Q _ => ∃ c m : Int, vs = [.int c, .int m] ∧ 0 ≤ m ∧ m ≤ 1000 ∧ ∀ (ns : List Int) p, Byt ns → (ns.length : Int) ≤ m → H p = none → Q (.ref p) (upd H p (.lst (ns.map V.int)))
def spDue (K : PySem.W.Frag) : Sp := fun vs H Q _ => ∃ (f : Nat) (a : Addr) (ns : List Int), vs = [.int (f : Int), .ref a] ∧ f < 2 ^ 16 ∧ SqL K H a (ns.map V.int) ∧ Byt ns ∧ ns.length ≤ 1000 ∧ Q (.int ((crcN f ns : Nat) : Int)) H
section
variable {P : Program} {w : World} {K : PySem.W.Frag} {mg : Str → Option Value} {base : Heap}
theorem ok_l_whole (T : Tx K mg) : FnOk P w K mg base CX0 1 T.a_l_whole T.d_l_whole ["_law_found"] spWhole := by
  refine T.F_l_whole.ok sc_l_whole (fun vs H Q E h => ?_) (fun cdv A outer s H vs Q E hr h => ?_)
  · obtain ⟨i, rfl, _⟩ := h; rfl
  · obtain ⟨i, rfl, q⟩ := h
    refine ⟨_, (pss_gc (pss_one (ps_ret (pe_and (pe_callB (call_isiZ (K := K) rfl) (by rfl) T.z_isinstance (by decide +kernel) (pa_cons (pv 0) (pa_cons (pe_bltn (v := .ty "int") rfl T.z_int (by decide +kernel) rfl) pa_nil))) (pe_one (pe_not (pe_callB (call_isiZ (K := K) rfl) (by rfl) T.z_isinstance (by decide +kernel) (pa_cons (pv 0) (pa_cons (pe_bltn (v := .ty "bool") rfl T.z_bool (by decide +kernel) rfl) pa_nil))))))))), ?_⟩
    walk_at "z0"
    exact q
theorem pick4 {n : Int} (h : 0 ≤ n) : 0 ≤ ([0, 255, 165, 90] : List Int).getD (n % 4).toNat 0 ∧ ([0, 255, 165, 90] : List Int).getD (n % 4).toNat 0 < 256 := by
  have : n % 4 = 0 ∨ n % 4 = 1 ∨ n % 4 = 2 ∨ n % 4 = 3 := by omega
  rcases this with e | e | e | e <;> rw [e] <;> decide
theorem rep_one (n : Nat) (x : Int) : (List.replicate n [V.int x]).flatten = (List.replicate n x).map V.int := by
  induction n with
  | zero => rfl
  | succ n ih => rw [List.replicate_succ, List.flatten_cons, ih, List.replicate_succ] <;> rfl
theorem ok_l_row (T : Tx K mg) : FnOk P w K mg base CX0 2 T.a_l_row T.d_l_row ["_law_cell", "_law_most"] spRow := by
  refine T.F_l_row.ok sc_l_row (fun vs H Q E h => ?_) (fun cdv A outer s H vs Q E hr h => ?_)
  · obtain ⟨c, m, rfl, _⟩ := h; rfl
  · obtain ⟨c, m, rfl, h0, h1, q⟩ := h
    refine ⟨_, (pss_gc (pss_cons (ps_set (i := 2) sc_l_row.nd rfl (by first | exact Or.inl rfl | exact Or.inr rfl) (pe_op op_mod (pe_callZ (ok_l_mixed T) (hr.mono (by decide)) (by rfl) T.g_l_mixed T.F_l_mixed.kp T.b_l_mixed pass0 (pa_cons (pv 0) (pa_cons pe_int pa_nil))) (pe_op (op_addZ (K := K) rfl) (pv 1) pe_int)))
      (pss_cons (ps_set (i := 3) sc_l_row.nd rfl (by first | exact Or.inl rfl | exact Or.inr rfl) (pe_op op_mod (pe_callZ (ok_l_mixed T) (hr.mono (by decide)) (by rfl) T.g_l_mixed T.F_l_mixed.kp T.b_l_mixed pass0 (pa_cons (pv 0) (pa_cons pe_int pa_nil))) pe_int))
      (pss_cons (ps_if (pt_cmpR (op_eqZ (K := K) rfl hr.units) (pv 3) pe_int (nomark _)) (pss_one (ps_ret (pe_lc (own := [("_law_k", 4)]) rfl sc_l_row.nd (pi_range1 rfl T.z_range (pa_cons (pv 2) pa_nil)) (blkOk_by (N := ["_law_cell", "_law_most", "_law_many", "_law_way", "_law_k"]) (sc := defScope s_l_row) (by decide +kernel)) (fun _ _ _ _ _ => (pg_name (i := 4) sc_l_row.nd rfl (by first | exact Or.inl rfl | exact Or.inr rfl))) (fun _ _ _ _ _ => pts_nil) (fun _ _ _ _ _ => (pe_gc (pe_ix (ix_seqZ (K := K) rfl) (pe_lst (pa_cons pe_int (pa_cons pe_int (pa_cons pe_int (pa_cons pe_int pa_nil))))) (pe_op op_mod (pe_callZ (ok_l_mixed T) (hr.mono (by decide)) (by rfl) T.g_l_mixed T.F_l_mixed.kp T.b_l_mixed pass0 (pa_cons (pv 0) (pa_cons (pe_op (op_addZ (K := K) rfl) pe_int (pv 4)) pa_nil))) pe_int) (fun _ _ => rfl))))))) pss_nil)
      (pss_cons (ps_if (pt_cmpR (op_eqZ (K := K) rfl hr.units) (pv 3) pe_int (nomark _)) (pss_one (ps_ret (pe_op op_mulZ (pe_lst (pa_cons (pe_op op_mod (pe_callZ (ok_l_mixed T) (hr.mono (by decide)) (by rfl) T.g_l_mixed T.F_l_mixed.kp T.b_l_mixed pass0 (pa_cons (pv 0) (pa_cons pe_int pa_nil))) pe_int) pa_nil)) (pv 2)))) pss_nil)
      (pss_one (ps_ret (pe_lc (own := [("_law_k", 4)]) rfl sc_l_row.nd (pi_range1 rfl T.z_range (pa_cons (pv 2) pa_nil)) (blkOk_by (N := ["_law_cell", "_law_most", "_law_many", "_law_way", "_law_k"]) (sc := defScope s_l_row) (by decide +kernel)) (fun _ _ _ _ _ => (pg_name (i := 4) sc_l_row.nd rfl (by first | exact Or.inl rfl | exact Or.inr rfl))) (fun _ _ _ _ _ => pts_nil) (fun _ _ _ _ _ => (pe_gc (pe_op op_mod (pe_callZ (ok_l_mixed T) (hr.mono (by decide)) (by rfl) T.g_l_mixed T.F_l_mixed.kp T.b_l_mixed pass0 (pa_cons (pv 0) (pa_cons (pe_op (op_addZ (K := K) rfl) pe_int (pv 4)) pa_nil))) pe_int))))))))))), ?_⟩
    walk_at "z0"
    refine call_mixed (by omega) (by omega) fun n1 a1 b1 => ?_
    walk_at "z"
    refine call_mixed (by omega) (by omega) fun n2 a2 b2 => ?_
    walk_at "z"
    have hm0 : 0 ≤ n1 % (m + 1) := Int.emod_nonneg _ (by omega)
    have hm1 : n1 % (m + 1) < m + 1 := Int.emod_lt_of_pos _ (by omega)
    generalize n1 % (m + 1) = n at hm0 hm1
    have hz : n.toNat ≤ sizeLine := Nat.le_trans (show n.toNat ≤ 1000 by omega) (by decide)
    refine z_if (fun _ => ?_) (fun _ => ?_)
    · walk_at "z"
      refine c_rangeP (fun _ y => 0 ≤ y ∧ y < 256) hz (fun _ => rfl) ?_ ?_
      · intro i H1 R hi sm r
        dsimp only [wipe, List.set]
        walk_at "z"
        refine ⟨by show 4 ≤ sizeLine; decide, fun p hp => ?_⟩
        walk_at "z"
        refine call_mixed (by omega) (by omega) fun n3 a3 b3 => ?_
        walk_at "z"
        refine z_ixI (ns := [0, 255, 165, 90]) (SqL.of upd_same) (by omega) (by show n3 % 4 < 4; omega) ?_
        refine z_gc (gc_sx (by walk_at "sx")) ?_
        exact r _ (pick4 a3)
      · intro D ns hD hl hp
        exact z_gcN hD rfl (q ns D (byt_of hp) (by omega) hD)
    · walk_at "z"
      refine z_if (fun _ => ?_) (fun _ => ?_)
      · walk_at "z"
        refine call_mixed (by omega) (by omega) fun n3 a3 b3 => ?_
        walk_at "z"
        refine ⟨by show 1 ≤ sizeLine; decide, fun p hp => ?_⟩
        walk_at "z"
        refine z_rep upd_same (by omega) (by omega) (by rw [List.length_singleton, Nat.one_mul]; exact hz) fun p2 hp2 => ?_
        rw [rep_one]
        have np := none_new hp2
        refine z_gc (Gc.put (gc_sx (by walk_at "sx")) upd_same) ?_
        refine q _ p2 ?_ ?_ np
        · intro y hy
          rw [List.eq_of_mem_replicate hy]
          omega
        · rw [List.length_replicate]
          omega
      · walk_at "z"
        refine c_rangeP (fun _ y => 0 ≤ y ∧ y < 256) hz (fun _ => rfl) ?_ ?_
        · intro i H1 R hi sm r
          dsimp only [wipe, List.set]
          walk_at "z"
          refine call_mixed (by omega) (by omega) fun n3 a3 b3 => ?_
          walk_at "z"
          exact r _ (by omega)
        · intro D ns hD hl hp
          exact z_gcN hD rfl (q ns D (byt_of hp) (by omega) hD)
end

section
variable {P : Program} {w : World} {K : PySem.W.Frag} {mg : Str → Option Value} {base : Heap}
theorem ok_l_due (T : Tx K mg) : FnOk P w K mg base CX0 1 T.a_l_due T.d_l_due ["_law_begun", "_law_row_here"] (spDue K) := by
  refine T.F_l_due.ok sc_l_due (fun vs H Q E h => ?_) (fun cdv A outer s H vs Q E hr h => ?_)
  · obtain ⟨f, a, ns, rfl, _⟩ := h; rfl
  · obtain ⟨f, a, ns, rfl, hf, hS, hB, hL, q⟩ := h
    refine ⟨_, (pss_gc (pss_cons (ps_set (i := 2) sc_l_due.nd rfl (by first | exact Or.inl rfl | exact Or.inr rfl) (pe_gc (pe_lst pa_nil)))
      (pss_cons (ps_forZ PassesOwn.never rfl (pi_listZ (K := K) rfl (pv 1)) (pg_name (i := 3) sc_l_due.nd rfl (by first | exact Or.inl rfl | exact Or.inr rfl)) (pss_one (ps_set (i := 2) sc_l_due.nd rfl (by first | exact Or.inl rfl | exact Or.inr rfl) (pe_gc (pe_op (op_addZ (K := K) rfl) (pv 2) (pe_lc (own := [("_law_k", 4)]) rfl sc_l_due.nd (pi_range1 rfl T.z_range (pa_cons pe_int pa_nil)) (blkOk_by (N := ["_law_begun", "_law_row_here", "_law_bits", "_law_byte", "_law_k", "_law_at"]) (sc := defScope s_l_due) (by decide +kernel)) (fun _ _ _ _ _ => (pg_name (i := 4) sc_l_due.nd rfl (by first | exact Or.inl rfl | exact Or.inr rfl))) (fun _ _ _ _ _ => pts_nil) (fun _ _ _ _ _ => (pe_gc (pe_op op_and (pe_op op_shr (pv 3) (pe_op op_sub pe_int (pv 4))) pe_int)))))))))
      (pss_cons (ps_set (i := 2) sc_l_due.nd rfl (by first | exact Or.inl rfl | exact Or.inr rfl) (pe_gc (pe_op (op_addZ (K := K) rfl) (pv 2) (pe_op op_mulZ (pe_lst (pa_cons pe_int pa_nil)) pe_int))))
      (pss_cons (ps_forZ PassesOwn.never rfl (pi_range1 rfl T.z_range (pa_cons pe_int pa_nil)) (pg_name (i := 4) sc_l_due.nd rfl (by first | exact Or.inl rfl | exact Or.inr rfl)) (pss_one (ps_asg (pe_op op_xor (pe_ix (ix_seqZ (K := K) rfl) (pv 2) (pv 4) (fun _ _ => rfl)) (pe_op op_and (pe_op op_shr (pv 0) (pe_op op_sub pe_int (pv 4))) pe_int)) (pg_sub (pv 2) (pv 4) set_list))))
      (pss_cons (ps_forZ PassesOwn.never rfl (pi_range1 rfl T.z_range (pa_cons (pe_op op_mulZ pe_int (pe_callB (call_lenZ (K := K) rfl) (by rfl) T.z_len PySem.boot_len (pa_cons (pv 1) pa_nil))) pa_nil)) (pg_name (i := 4) sc_l_due.nd rfl (by first | exact Or.inl rfl | exact Or.inr rfl)) (pss_one (ps_if (pt_cmpR (op_eqZ (K := K) rfl hr.units) (pe_ix (ix_seqZ (K := K) rfl) (pv 2) (pv 4) (fun _ _ => rfl)) pe_int (nomark _)) (pss_one (ps_forZ PassesOwn.never rfl (pi_listZ (K := K) rfl (pe_lst (pa_cons pe_int (pa_cons pe_int (pa_cons pe_int (pa_cons pe_int pa_nil)))))) (pg_name (i := 5) sc_l_due.nd rfl (by first | exact Or.inl rfl | exact Or.inr rfl)) (pss_one (ps_asg (pe_op op_sub pe_int (pe_ix (ix_seqZ (K := K) rfl) (pv 2) (pe_op (op_addZ (K := K) rfl) (pv 4) (pv 5)) (fun _ _ => rfl))) (pg_sub (pv 2) (pe_op (op_addZ (K := K) rfl) (pv 4) (pv 5)) set_list))))) pss_nil)))
      (pss_one (ps_ret (pe_callB (cr_sumZ (K := K) rfl rfl) (by rfl) T.z_sum (by decide +kernel) (pa_cons (pe_lc (own := [("_law_k", 4)]) rfl sc_l_due.nd (pi_range1 rfl T.z_range (pa_cons pe_int pa_nil)) (blkOk_by (N := ["_law_begun", "_law_row_here", "_law_bits", "_law_byte", "_law_k", "_law_at"]) (sc := defScope s_l_due) (by decide +kernel)) (fun _ _ _ _ _ => (pg_name (i := 4) sc_l_due.nd rfl (by first | exact Or.inl rfl | exact Or.inr rfl))) (fun _ _ _ _ _ => pts_nil) (fun _ _ _ _ _ => (pe_gc (pe_op op_shl (pe_ix (ix_seqZ (K := K) rfl) (pv 2) (pe_op (op_addZ (K := K) rfl) (pe_op op_mulZ pe_int (pe_callB (call_lenZ (K := K) rfl) (by rfl) T.z_len PySem.boot_len (pa_cons (pv 1) pa_nil))) (pv 4)) (fun _ _ => rfl)) (pe_op op_sub pe_int (pv 4)))))) pa_nil)))))))))), ?_⟩
    walk_at "z0"
    refine ⟨by show 0 ≤ sizeLine; decide, fun p0 hp0 => ?_⟩
    refine z_gcN hp0 rfl ?_
    walk_at "z"
    refine ⟨_, rfl, ⟨_, sq_up hp0 hS⟩, f_ints (ns := ns) (fun i σ' H' => ∃ p v1 v2 v3, H p = none ∧ σ' = [some (.int (f : Int)), some (.ref a), some (.ref p), v1, v2, v3] ∧ H' = upd H p (.lst ((mk (8 * i) (mb ns)).map V.int))) ⟨p0, none, none, none, hp0, rfl, rfl⟩ (fun _ _ _ _ ⟨p, _, _, _, hp, _, e⟩ => e ▸ sq_up hp hS) ?_ ?_⟩
    · rintro i b σ' H' hi ⟨p, v1, v2, v3, hp, rfl, rfl⟩
      have hb := byt_at hB hi
      walk_at "z"
      refine c_range (fun t => V.int (bi (mb ns (8 * i + t)))) (by decide) (fun _ => rfl) ?_ ?_
      · intro t H1 R ht sm r
        dsimp only [wipe, List.set]
        walk_at "z"
        have e : (7 - (0 + (t : Int))).toNat = 7 - t := by omega
        have ht' : t < 8 := ht
        rw [e, bit_int hb.1, ← mb_at hi ht']
        exact r
      · intro D hD
        have hlt := (List.getElem?_eq_some_iff.mp hi).1
        apply z_cat
        · walk_at "lk"
        · walk_at "lk"
        · rw [List.length_map, List.length_map, mk_len, List.length_range]
          exact Nat.le_trans (show 8 * i + 8 ≤ 8008 by omega) (by decide)
        intro p2 hp2
        have np2 := none_new (none_new hp2)
        have nD := none_new hD
        have el : List.map V.int (mk (8 * i) (mb ns)) ++ List.map (fun t => V.int (bi (mb ns (8 * i + t)))) (List.range (Int.toNat 8)) = (mk (8 * (i + 1)) (mb ns)).map V.int := by
          rw [show 8 * (i + 1) = 8 * i + 8 from rfl, mk_add, List.map_append]
          congr 1
        rw [el]
        refine z_gc (gc_one (H := H) (p := p2) (by walk_at "bs") (by walk_at "sx") upd_same) ?_
        refine z_gc (gc_one (H := H) (p := p2) (by walk_at "bs") (by walk_at "sx") upd_same) ?_
        exact ⟨p2, _, _, _, np2, rfl, rfl⟩
    · rintro σ' H' ⟨p, v1, v2, v3, hp, rfl, rfl⟩
      walk_at "z"
      refine ⟨by show 1 ≤ sizeLine; decide, fun p1 hp1 => ?_⟩
      walk_at "z"
      refine z_rep upd_same (by decide) (by decide) (by decide) fun p2 hp2 => ?_
      apply z_cat
      · walk_at "lk"
      · walk_at "lk"
      · rw [rep_one, List.length_map, List.length_map, mk_len, List.length_replicate]
        exact Nat.le_trans (show 8 * ns.length + 16 ≤ 8016 by omega) (by decide)
      intro p3 hp3
      have n1 := none_new hp1
      have n2 := none_new (none_new hp2)
      have n3 := none_new (none_new (none_new hp3))
      have el : List.map V.int (mk (8 * ns.length) (mb ns)) ++ (List.replicate (Int.toNat 16) [V.int 0]).flatten = (mk (8 * ns.length + 16) (b1 ns f 0)).map V.int := by
        rw [rep_one, mk_add, List.map_append]
        congr 2
        · exact mk_congr fun i hi => by simp [b1]
        · have e : mk 16 (fun i => b1 ns f 0 (8 * ns.length + i)) = mk 16 fun _ => false := mk_congr fun i hi => by
            unfold b1
            rw [mb_out (by omega)]
            simp
          rw [e]
          rfl
      rw [el]
      refine z_gc (gc_one (H := H) (p := p3) (by walk_at "bs") (by walk_at "sx") upd_same) ?_
      walk_at "z"
      refine f_range (fun k σ' H' => ∃ v2, σ' = [some (.int (f : Int)), some (.ref a), some (.ref p3), v1, v2, v3] ∧ H' = upd H p3 (.lst ((mk (8 * ns.length + 16) (b1 ns f k)).map V.int))) ⟨v2, rfl, rfl⟩ ?_ ?_
      · rintro k σ' H' hk ⟨w2, rfl, rfl⟩
        have hk' : k < 16 := hk
        walk_at "z"
        refine rd_mk (j := k) (SqL.of upd_same) (by omega) (by omega) ?_
        walk_at "z"
        rw [show (15 - (0 + (k : Int))).toNat = 15 - k by omega, bit_int (by omega), xor_bi, Int.toNat_natCast]
        refine st_mk (j := k) (by omega) (by omega) ?_
        refine z_gc gc_mut ?_
        refine ⟨_, rfl, ?_⟩
        congr 3
        refine mk_congr fun j hj => ?_
        rw [b1_next]
        by_cases e : j = k
        · subst e; simp [b1]
        · simp [e]
      · rintro σ' H' ⟨w2, rfl, rfl⟩
        walk_at "z"
        refine f_range (fun k σ' H' => ∃ v2 v3, σ' = [some (.int (f : Int)), some (.ref a), some (.ref p3), v1, v2, v3] ∧ H' = upd H p3 (.lst ((mk (8 * ns.length + 16) (b2 ns f k)).map V.int))) ⟨w2, v3, rfl, rfl⟩ ?_ ?_
        · rintro k σ' H' hk ⟨y2, y3, rfl, rfl⟩
          have hk' : k < 8 * ns.length := by omega
          walk_at "z"
          refine rd_mk (j := k) (SqL.of upd_same) (by omega) (by omega) ?_
          walk_at "z"
          refine z_if (fun hb => ?_) (fun hb => ?_)
          · walk_at "z"
            refine ⟨by show 4 ≤ sizeLine; decide, fun pl hpl => ?_⟩
            have npl := none_new hpl
            have ne3 : p3 ≠ pl := (ne_new hpl).symm
            rw [upd_comm ne3]
            refine ⟨pl, rfl, ⟨[V.int 0, V.int 4, V.int 11, V.int 16], SqL.of (by rw [upd_ne ne3.symm]; exact upd_same)⟩, ?_⟩
            refine f_ints (ns := [0, 4, 11, 16]) (fun t σ' H' => ∃ v3, σ' = [some (.int (f : Int)), some (.ref a), some (.ref p3), v1, some (.int (0 + (k : Int))), v3] ∧ H' = upd (upd H pl (.lst [V.int 0, V.int 4, V.int 11, V.int 16])) p3 (.lst ((mk (8 * ns.length + 16) (flip (([0, 4, 11, 16] : List Nat).take t) k (b2 ns f k))).map V.int))) ⟨y3, rfl, by rw [List.take_zero, flip_nil]⟩ ?_ ?_ ?_
            · rintro t σ' H' _ ⟨z3, rfl, rfl⟩
              exact SqL.of (by rw [upd_ne ne3.symm]; exact upd_same)
            · rintro t n σ' H' ht ⟨z3, rfl, rfl⟩
              obtain ⟨s, rfl, hs, e1, e2⟩ := four_at ht
              walk_at "z"
              refine rd_mk (j := k + s) (SqL.of upd_same) (by omega) (by omega) ?_
              walk_at "z"
              rw [sub_bi]
              refine st_mk (j := k + s) (by omega) (by omega) ?_
              refine z_gc (((gc_bs (H := H) (by walk_at "bs") (by walk_at "sx")).put (p := pl) (by rw [upd_ne ne3.symm]; exact upd_same)).put (p := p3) upd_same) ?_
              refine ⟨_, rfl, ?_⟩
              congr 3
              rw [e1]
              exact mk_congr fun j hj => (flip_more _ s k _ e2 j).symm
            · rintro σ' H' ⟨z3, rfl, rfl⟩
              refine z_gc (gc_one (H := H) (p := p3) (by walk_at "bs") (by walk_at "sx") upd_same) ?_
              refine ⟨_, _, rfl, ?_⟩
              show _ = upd H p3 (.lst ((mk (8 * ns.length + 16) (if b2 ns f k k = true then flip [0, 4, 11, 16] k (b2 ns f k) else b2 ns f k)).map V.int))
              rw [if_pos ((bi_one _).mp hb)]
              rfl
          · walk_at "z"
            refine z_gc gc_mut ?_
            refine ⟨_, _, rfl, ?_⟩
            have hb' : ¬ b2 ns f k k = true := fun z => hb ((bi_one _).mpr z)
            show _ = upd H p3 (.lst ((mk (8 * ns.length + 16) (if b2 ns f k k = true then flip [0, 4, 11, 16] k (b2 ns f k) else b2 ns f k)).map V.int))
            rw [if_neg hb']
        · rintro σ' H' ⟨y2, y3, rfl, rfl⟩
          rw [show (8 * (ns.length : Int)).toNat = 8 * ns.length by omega]
          walk_at "z"
          refine c_range (fun i => V.int (bi ((crcN f ns).testBit (15 - i)) * 2 ^ (15 - i))) (by decide) (fun _ => rfl) ?_ ?_
          · intro i H1 R hi sm r
            have hi' : i < 16 := hi
            have hl : SqL K H1 a (ns.map V.int) := sm.seq (sq_up n3 hS)
            have h3 : SqL K H1 p3 ((mk (8 * ns.length + 16) (b2 ns f (8 * ns.length))).map V.int) := SqL.of (sm _ _ upd_same)
            dsimp only [wipe, List.set]
            walk_at "z"
            refine rd_mk (j := 8 * ns.length + i) h3 (by omega) (by omega) ?_
            rw [due_bit hf hB hi']
            have hb : bi ((crcN f ns).testBit (15 - i)) = 0 ∨ bi ((crcN f ns).testBit (15 - i)) = 1 := by cases (crcN f ns).testBit (15 - i) <;> simp [bi]
            walk_at "z"
            rw [show (15 - (0 + (i : Int))).toNat = 15 - i by omega]
            exact r
          · intro D hD
            walk_at "z"
            refine ⟨D, (List.range 16).map fun k => bi ((crcN f ns).testBit (15 - k)) * 2 ^ (15 - k), rfl, SqL.of (by rw [upd_same, List.map_map]; rfl), ?_⟩
            rw [sum_bits (crcN_lt hf hB)]
            have nD := none_new hD
            refine z_gc (gc_sx (by walk_at "sx")) ?_
            exact q
end


theorem call_whole {H : Hp} {Q : VK} {E : XK} {i : Int} (q : Q (.bl true) H) : spWhole [.int i] H Q E := ⟨i, rfl, q⟩
theorem call_due {K : PySem.W.Frag} {H : Hp} {Q : VK} {E : XK} {f : Nat} {a : Addr} {ns : List Int} (hf : f < 2 ^ 16) (hS : SqL K H a (ns.map V.int)) (hB : Byt ns) (hl : ns.length ≤ 1000) (q : Q (.int ((crcN f ns : Nat) : Int)) H) : spDue K [.int (f : Int), .ref a] H Q E := ⟨f, a, ns, rfl, hf, hS, hB, hl, q⟩
def spRight : Sp := fun vs H Q _ => ∃ c : Int, vs = [.int c] ∧ Q (.bl true) H
theorem row_two {ns : List Int} (hB : Byt ns) : crcRow ns = [((crcN 65535 ns : Nat) : Int) / 256, ((crcN 65535 ns : Nat) : Int) % 256] := by
  unfold crcRow
  congr 1
theorem byt_row {ns : List Int} (hB : Byt ns) : Byt (crcRow ns) := by
  have h := crcN_lt (f := 65535) (by decide) hB
  intro n hn
  unfold crcRow at hn
  simp at hn
  omega
theorem byt_app {xs ys : List Int} (h1 : Byt xs) (h2 : Byt ys) : Byt (xs ++ ys) := fun n hn => (List.mem_append.mp hn).elim (h1 n) (h2 n)
theorem byt_drop {ns : List Int} {i : Nat} (h : Byt ns) : Byt (ns.drop i) := fun n hn => h n (List.mem_of_mem_drop hn)
section
variable {P : Program} {w : World} {K : PySem.W.Frag} {mg : Str → Option Value} {base : Heap}
theorem ok_l_right (T : Tx K mg) : FnOk P w K mg base CX0 4 T.a_l_right T.d_l_right ["_law_cell"] spRight := by
  refine T.F_l_right.ok sc_l_right (fun vs H Q E h => ?_) (fun cdv A outer s H vs Q E hr h => ?_)
  · obtain ⟨c, rfl, _⟩ := h; rfl
  · obtain ⟨c, rfl, q⟩ := h
    refine ⟨_, (pss_gc (pss_cons (ps_set (i := 1) sc_l_right.nd rfl (by first | exact Or.inl rfl | exact Or.inr rfl) (pe_callZ (ok_l_row T) (hr.mono (by decide)) (by rfl) T.g_l_row T.F_l_row.kp T.b_l_row pass0 (pa_cons (pv 0) (pa_cons pe_int pa_nil))))
      (pss_cons (ps_set (i := 2) sc_l_right.nd rfl (by first | exact Or.inl rfl | exact Or.inr rfl) (pe_callTy (call_listZ (K := K) rfl) (by rfl) T.z_list (by decide +kernel) (pa_cons (pv 1) pa_nil)))
      (pss_cons (ps_set (i := 3) sc_l_right.nd rfl (by first | exact Or.inl rfl | exact Or.inr rfl) (pe_callZ (ok_crc T) (hr.mono (by decide)) (by rfl) T.g_crc T.F_crc.kp T.b_crc pass0 (pa_cons (pv 2) pa_nil)))
      (pss_cons (ps_if (PW.pt (pw_or (pt_cmpR (op_neZ (K := K) rfl hr.units) (pv 2) (pv 1) (nomark _)) (pw_or (pt_not (pt_truthZ (K := K) rfl (pe_callZ (ok_l_whole T) (hr.mono (by decide)) (by rfl) T.g_l_whole T.F_l_whole.kp T.b_l_whole pass0 (pa_cons (pv 3) pa_nil)) (by intro _; rfl))) (pw_or1 (pt_cmpR (op_neZ (K := K) rfl hr.units) (pv 3) (pe_callZ (ok_l_due T) (hr.mono (by decide)) (by rfl) T.g_l_due T.F_l_due.kp T.b_l_due pass0 (pa_cons pe_int (pa_cons (pv 1) pa_nil))) (nomark _)))))) (pss_one (ps_ret pe_bl)) pss_nil)
      (pss_cons (ps_set (i := 4) sc_l_right.nd rfl (by first | exact Or.inl rfl | exact Or.inr rfl) (pe_op op_mod (pe_callZ (ok_l_mixed T) (hr.mono (by decide)) (by rfl) T.g_l_mixed T.F_l_mixed.kp T.b_l_mixed pass0 (pa_cons (pv 0) (pa_cons pe_int pa_nil))) pe_int))
      (pss_cons (ps_if (PW.pt (pw_or (pt_cmpR (op_neZ (K := K) rfl hr.units) (pe_callZ (ok_crc_on T) (hr.mono (by decide)) (by rfl) T.g_crc_on T.F_crc_on.kp T.b_crc_on pass0 (pa_cons (pv 4) (pa_cons (pv 2) pa_nil))) (pe_callZ (ok_l_due T) (hr.mono (by decide)) (by rfl) T.g_l_due T.F_l_due.kp T.b_l_due pass0 (pa_cons (pv 4) (pa_cons (pv 1) pa_nil))) (nomark _)) (pw_or (pt_not (pt_truthZ (K := K) rfl (pe_callZ (ok_l_whole T) (hr.mono (by decide)) (by rfl) T.g_l_whole T.F_l_whole.kp T.b_l_whole pass0 (pa_cons (pe_callZ (ok_crc_on T) (hr.mono (by decide)) (by rfl) T.g_crc_on T.F_crc_on.kp T.b_crc_on pass0 (pa_cons (pv 4) (pa_cons (pv 2) pa_nil))) pa_nil)) (by intro _; rfl))) (pw_or1 (pt_cmpR (op_neZ (K := K) rfl hr.units) (pv 2) (pv 1) (nomark _)))))) (pss_one (ps_ret pe_bl)) pss_nil)
      (pss_cons (ps_set (i := 5) sc_l_right.nd rfl (by first | exact Or.inl rfl | exact Or.inr rfl) (pe_op op_mod (pe_callZ (ok_l_mixed T) (hr.mono (by decide)) (by rfl) T.g_l_mixed T.F_l_mixed.kp T.b_l_mixed pass0 (pa_cons (pv 0) (pa_cons pe_int pa_nil))) (pe_op (op_addZ (K := K) rfl) (pe_callB (call_lenZ (K := K) rfl) (by rfl) T.z_len PySem.boot_len (pa_cons (pv 1) pa_nil)) pe_int)))
      (pss_cons (ps_if (pt_gc (pt_cmpR (op_neZ (K := K) rfl hr.units) (pe_callZ (ok_crc_on T) (hr.mono (by decide)) (by rfl) T.g_crc_on T.F_crc_on.kp T.b_crc_on pass0 (pa_cons (pe_callZ (ok_crc T) (hr.mono (by decide)) (by rfl) T.g_crc T.F_crc.kp T.b_crc pass0 (pa_cons (pe_slice (sl_Z (K := K) rfl) (pv 1) po_none (po_some (pv 5))) pa_nil)) (pa_cons (pe_slice (sl_Z (K := K) rfl) (pv 1) (po_some (pv 5)) po_none) pa_nil))) (pv 3) (nomark _))) (pss_one (ps_ret pe_bl)) pss_nil)
      (pss_cons (ps_set (i := 6) sc_l_right.nd rfl (by first | exact Or.inl rfl | exact Or.inr rfl) (pe_callZ (ok_crc_row T) (hr.mono (by decide)) (by rfl) T.g_crc_row T.F_crc_row.kp T.b_crc_row pass0 (pa_cons (pv 2) pa_nil)))
      (pss_cons (ps_if (pt_gc (PW.pt (pw_or (pt_not (pt_truthZ (K := K) rfl (pe_callB (call_isiZ (K := K) rfl) (by rfl) T.z_isinstance (by decide +kernel) (pa_cons (pv 6) (pa_cons (pe_bltn (v := .ty "list") rfl T.z_list (by decide +kernel) rfl) pa_nil))) (by intro _; rfl))) (pw_or (pt_cmpR (op_neZ (K := K) rfl hr.units) (pv 6) (pe_lst (pa_cons (pe_op op_fdiv (pv 3) pe_int) (pa_cons (pe_op op_mod (pv 3) pe_int) pa_nil))) (nomark _)) (pw_or1 (pt_cmpR (op_neZ (K := K) rfl hr.units) (pv 2) (pv 1) (nomark _))))))) (pss_one (ps_ret pe_bl)) pss_nil)
      (pss_cons (ps_expr (pe_bmZ (K := K) rfl PySem.F.plainAttrs_list PySem.F.slot_list_append PySem.F.type_list_append mt_append (pv 6) (pa_cons pe_int pa_nil)))
      (pss_one (ps_ret (pe_and (pe_cmpR (op_eqZ (K := K) rfl hr.units) (pe_callZ (ok_crc T) (hr.mono (by decide)) (by rfl) T.g_crc T.F_crc.kp T.b_crc pass0 (pa_cons (pe_op (op_addZ (K := K) rfl) (pv 1) (pe_callZ (ok_crc_row T) (hr.mono (by decide)) (by rfl) T.g_crc_row T.F_crc_row.kp T.b_crc_row pass0 (pa_cons (pv 1) pa_nil))) pa_nil)) pe_int (nomark _)) (pe_one (pe_cmpR (op_eqZ (K := K) rfl hr.units) (pe_callZ (ok_crc_row T) (hr.mono (by decide)) (by rfl) T.g_crc_row T.F_crc_row.kp T.b_crc_row pass0 (pa_cons (pv 1) pa_nil)) (pe_slice (sl_Z (K := K) rfl) (pv 6) po_none (po_some pe_int)) (nomark _)))))))))))))))))), ?_⟩
    walk_at "z0"
    refine ⟨c, 40, rfl, by decide, by decide, fun ns r hB hl hr1 => ?_⟩
    walk_at "z"
    refine z_list (SqL.of upd_same) fun h hh => ?_
    have hL : ns.length ≤ 1000 := by omega
    have hh0 := none_new hh
    -- the row at r, what is handed in at h
    have s1 : SqL K (upd (upd H r (.lst (ns.map V.int))) h (.lst (ns.map V.int))) r (ns.map V.int) := SqL.of (get_new hh upd_same)
    have s2 : SqL K (upd (upd H r (.lst (ns.map V.int))) h (.lst (ns.map V.int))) h (ns.map V.int) := SqL.of upd_same
    have sx1 : Sx H (upd (upd H r (.lst (ns.map V.int))) h (.lst (ns.map V.int))) := by walk_at "sx"
    generalize upd (upd H r (.lst (ns.map V.int))) h (.lst (ns.map V.int)) = H1 at s1 s2 sx1
    walk_at "z"
    refine call_crc s2 hB ?_
    walk_at "z"
    refine call_whole ?_
    walk_at "z"
    refine call_due (f := 65535) (by decide) s1 hB hL ?_
    walk_at "z"
    refine call_mixed (by omega) (by omega) fun n1 a1 b1 => ?_
    walk_at "z"
    obtain ⟨f, hf⟩ : ∃ f : Nat, n1 % 65536 = (f : Int) := ⟨(n1 % 65536).toNat, by omega⟩
    have hf2 : f < 2 ^ 16 := by omega
    rw [hf]
    walk_at "z"
    refine call_crc_on hf2 s2 hB ?_
    walk_at "z"
    refine call_due hf2 s1 hB hL ?_
    walk_at "z"
    refine call_crc_on hf2 s2 hB ?_
    walk_at "z"
    refine call_whole ?_
    walk_at "z"
    refine call_mixed (by omega) (by omega) fun n2 a2 b2 => ?_
    walk_at "z"
    have hm0 : 0 ≤ n2 % ((ns.length : Int) + 1) := Int.emod_nonneg _ (by omega)
    generalize n2 % ((ns.length : Int) + 1) = m at hm0
    refine z_slToI hm0 s1 fun p1 hp1 => ?_
    walk_at "z"
    refine call_crc (SqL.of upd_same) (byt_take hB) ?_
    walk_at "z"
    refine z_slFromI hm0 (sq_up hp1 s1) fun p2 hp2 => ?_
    walk_at "z"
    refine call_crc_on (crcN_lt (by decide) (byt_take hB)) (SqL.of upd_same) (byt_drop hB) ?_
    rw [← crcN_app, List.take_append_drop]
    walk_at "z"
    refine z_gc (gc_sx (by walk_at "sx")) ?_
    walk_at "z"
    refine call_crc_row s2 hB fun p3 hp3 => ?_
    walk_at "z"
    refine ⟨by show 2 ≤ sizeLine; decide, fun p4 hp4 => ?_⟩
    refine z_neLN (ms := [((crcN 65535 ns : Nat) : Int) / 256, ((crcN 65535 ns : Nat) : Int) % 256]) rfl rfl (SqL.of (get_new hp4 upd_same)) (SqL.of upd_same) ?_
    walk_at "z"
    refine z_ifnY (row_two hB) ?_
    have s5 := sq_up (o := .lst [V.int (((crcN 65535 ns : Nat) : Int) / 256), V.int (((crcN 65535 ns : Nat) : Int) % 256)]) hp4 (sq_up (o := .lst ((crcRow ns).map V.int)) hp3 s2)
    have s6 := sq_up (o := .lst [V.int (((crcN 65535 ns : Nat) : Int) / 256), V.int (((crcN 65535 ns : Nat) : Int) % 256)]) hp4 (sq_up (o := .lst ((crcRow ns).map V.int)) hp3 s1)
    walk_at "z"
    refine z_gc (gc_one (H := H1) (p := p3) (by walk_at "bs") (by walk_at "sx") (get_new hp4 upd_same)) ?_
    walk_at "z"
    refine z_app upd_same (by rw [List.length_map]; show 2 < sizeLine; decide) ?_
    rw [upd_upd]
    walk_at "z"
    refine call_crc_row (sq_up hp3 s1) hB fun p6 hp6 => ?_
    walk_at "z"
    refine z_catI (sq_up hp6 (sq_up hp3 s1)) (SqL.of upd_same) (Nat.le_trans (show ns.length + 2 ≤ 1002 by omega) (by decide)) fun p7 hp7 => ?_
    walk_at "z"
    refine call_crc (SqL.of upd_same) (byt_app hB (byt_row hB)) ?_
    rw [crc_zero hB]
    walk_at "z"
    refine z_ifY rfl ?_
    walk_at "z"
    refine call_crc_row (sq_up hp7 (sq_up hp6 (sq_up hp3 s1))) hB fun p8 hp8 => ?_
    walk_at "z"
    refine z_slTo (by decide) (SqL.of (get_new hp8 (get_new hp7 (get_new hp6 upd_same)))) fun p9 hp9 => ?_
    walk_at "z"
    refine z_eqLN (ns := crcRow ns) (ms := crcRow ns) rfl rfl (SqL.of (get_new hp9 upd_same)) (SqL.of upd_same) ?_
    rw [decide_eq_true (rfl : crcRow ns = crcRow ns)]
    have e3 := sx1.same.free hp3
    refine z_gc (gc_sx (by walk_at "sx")) ?_
    exact q
def spLaw (K : PySem.W.Frag) : Sp := fun vs H Q _ => ∃ (a : Addr) (ns : List Int), vs = [.ref a] ∧ SqL K H a (ns.map V.int) ∧ ns.length ≤ 63 ∧ ND H ∧ ∀ H', Q (.bl true) H'
theorem ok_law (T : Tx K mg) : FnOk P w K mg base CX0 5 T.a_law T.d_law ["_law_script"] (spLaw K) := by
  refine T.F_law.ok sc_law (fun vs H Q E h => ?_) (fun cdv A outer s H vs Q E hr h => ?_)
  · obtain ⟨a, ns, rfl, _⟩ := h; rfl
  · obtain ⟨a, ns, rfl, hS, hl, nd, q⟩ := h
    refine ⟨_, (pss_gc (pss_cons (ps_forZ PassesOwn.never rfl (pi_listZ (K := K) rfl (pe_op (op_addZ (K := K) rfl) (pe_lst (pa_cons pe_int (pa_cons pe_int pa_nil))) (pe_slice (sl_Z (K := K) rfl) (pv 0) po_none (po_some pe_int)))) (pg_name (i := 1) sc_law.nd rfl (by first | exact Or.inl rfl | exact Or.inr rfl)) (pss_one (ps_if (pt_not (pt_truthZ (K := K) rfl (pe_callZ (ok_l_right T) (hr.mono (by decide)) (by rfl) T.g_l_right T.F_l_right.kp T.b_l_right pass0 (pa_cons (pv 1) pa_nil)) (by intro _; rfl))) (pss_one (ps_ret pe_bl)) pss_nil)))
      (pss_one (ps_ret (pe_and (pe_cmpR (op_eqZ (K := K) rfl hr.units) (pe_callZ (ok_crc T) (hr.mono (by decide)) (by rfl) T.g_crc T.F_crc.kp T.b_crc pass0 (pa_cons (pe_lst (pa_cons pe_int (pa_cons pe_int (pa_cons pe_int (pa_cons pe_int (pa_cons pe_int (pa_cons pe_int (pa_cons pe_int (pa_cons pe_int (pa_cons pe_int pa_nil)))))))))) pa_nil)) pe_int (nomark _)) (pe_one (pe_cmpR (op_eqZ (K := K) rfl hr.units) (pe_callZ (ok_crc T) (hr.mono (by decide)) (by rfl) T.g_crc T.F_crc.kp T.b_crc pass0 (pa_cons (pe_lst pa_nil) pa_nil)) pe_int (nomark _)))))))), ?_⟩
    walk_at "z0"
    refine ⟨by show 2 ≤ sizeLine; decide, fun p1 hp1 => ?_⟩
    walk_at "z"
    refine z_slToI (by decide) (sq_up hp1 hS) fun p2 hp2 => ?_
    refine z_catI (ns := [0, 1]) (SqL.of (get_new hp2 upd_same)) (SqL.of upd_same) (Nat.le_trans (show 2 + (ns.take (16 : Int).toNat).length ≤ 100 by rw [List.length_take]; omega) (by decide)) fun p3 hp3 => ?_
    walk_at "z"
    have np2 := none_new hp2
    have np3 := none_new (none_new hp3)
    refine ⟨_, rfl, ⟨_, SqL.of upd_same⟩, f_ints (ns := [0, 1] ++ ns.take (16 : Int).toNat) (fun i σ' H' => ∃ v, σ' = [some (.ref a), v] ∧ Sx H H' ∧ H' p3 = some (.lst (([0, 1] ++ ns.take (16 : Int).toNat).map V.int))) ⟨none, rfl, by walk_at "sx", upd_same⟩ ?_ ?_ ?_⟩
    · rintro i σ' H' _ ⟨v, _, _, e⟩
      exact SqL.of e
    · rintro i n σ' H' _ ⟨v, rfl, sx, e⟩
      walk_at "z"
      refine ⟨n, rfl, ?_⟩
      walk_at "z"
      refine z_gc (gc_one (H := H) (p := p3) bs_refl sx e) ?_
      exact ⟨_, rfl, by walk_at "sx", upd_same⟩
    · rintro σ' H' ⟨v, rfl, sx, e⟩
      walk_at "z"
      refine ⟨by show 9 ≤ sizeLine; decide, fun p4 hp4 => ?_⟩
      walk_at "z"
      refine call_crc (ns := [49, 50, 51, 52, 53, 54, 55, 56, 57]) (SqL.of upd_same) (by unfold Byt; decide) ?_
      walk_at "z"
      refine z_ifY (by decide +kernel) ?_
      walk_at "z"
      refine ⟨by show 0 ≤ sizeLine; decide, fun p5 hp5 => ?_⟩
      walk_at "z"
      refine call_crc (ns := []) (SqL.of upd_same) (by unfold Byt; decide) ?_
      walk_at "z"
      rw [decide_eq_true (show ((crcN 65535 [] : Nat) : Int) = 65535 from rfl)]
      have n4 := sx.same.free hp4
      refine z_gc (gc_sx (by walk_at "sx")) ?_
      exact q _
end
theorem all_mk {l : PySem.W.OpenLaw} {w : World} {K : PySem.W.Frag} {h : Heap} {mg : Str → Option Value} {fa f0 f1 f2 f3 f4 f5 f6 f7 f8 : Addr} (X : K.In h) (G : h.Ns mainGlobals mg) (hfa : mg "law" = some (.ref fa))
    {od0 an0 : Option Addr} {sl0 : Array (Option Value)} {oc0 kV0 dc0 pm0 cd0 ct0 : Value}
    {od1 an1 : Option Addr} {sl1 : Array (Option Value)} {oc1 kV1 dc1 pm1 cd1 ct1 : Value}
    {od2 an2 : Option Addr} {sl2 : Array (Option Value)} {oc2 kV2 dc2 pm2 cd2 ct2 : Value}
    {od3 an3 : Option Addr} {sl3 : Array (Option Value)} {oc3 kV3 dc3 pm3 cd3 ct3 : Value}
    {od4 an4 : Option Addr} {sl4 : Array (Option Value)} {oc4 kV4 dc4 pm4 cd4 ct4 : Value}
    {od5 an5 : Option Addr} {sl5 : Array (Option Value)} {oc5 kV5 dc5 pm5 cd5 ct5 : Value}
    {od6 an6 : Option Addr} {sl6 : Array (Option Value)} {oc6 kV6 dc6 pm6 cd6 ct6 : Value}
    {od7 an7 : Option Addr} {sl7 : Array (Option Value)} {oc7 kV7 dc7 pm7 cd7 ct7 : Value}
    {od8 an8 : Option Addr} {sl8 : Array (Option Value)} {oc8 kV8 dc8 pm8 cd8 ct8 : Value}
    {u_BEGIN : Value}
    {u_FEED : Value}
    {u_TOP : Value}
    (a0 : PySem.W.nsIn K mainGlobals "crc_on" = some (some (.ref f0)))
    (l0 : K.lookup f0 = some ⟨oc0, od0, .func (PySem.W.fnOf "crc_on" "crc_on" (defArgs s_crc_on) (defBody s_crc_on) (defScope s_crc_on) .none kV0 dc0 pm0 an0 cd0 ct0), sl0⟩)
    (c0 : PySem.W.codeIn K cd0 "crc_on" = true) (k0 : PySem.W.keepIn K (.ref f0) = true)
    (a1 : PySem.W.nsIn K mainGlobals "crc" = some (some (.ref f1)))
    (l1 : K.lookup f1 = some ⟨oc1, od1, .func (PySem.W.fnOf "crc" "crc" (defArgs s_crc) (defBody s_crc) (defScope s_crc) .none kV1 dc1 pm1 an1 cd1 ct1), sl1⟩)
    (c1 : PySem.W.codeIn K cd1 "crc" = true) (k1 : PySem.W.keepIn K (.ref f1) = true)
    (a2 : PySem.W.nsIn K mainGlobals "crc_row" = some (some (.ref f2)))
    (l2 : K.lookup f2 = some ⟨oc2, od2, .func (PySem.W.fnOf "crc_row" "crc_row" (defArgs s_crc_row) (defBody s_crc_row) (defScope s_crc_row) .none kV2 dc2 pm2 an2 cd2 ct2), sl2⟩)
    (c2 : PySem.W.codeIn K cd2 "crc_row" = true) (k2 : PySem.W.keepIn K (.ref f2) = true)
    (a3 : PySem.W.nsIn K mainGlobals "_law_mixed" = some (some (.ref f3)))
    (l3 : K.lookup f3 = some ⟨oc3, od3, .func (PySem.W.fnOf "_law_mixed" "_law_mixed" (defArgs s_l_mixed) (defBody s_l_mixed) (defScope s_l_mixed) .none kV3 dc3 pm3 an3 cd3 ct3), sl3⟩)
    (c3 : PySem.W.codeIn K cd3 "_law_mixed" = true) (k3 : PySem.W.keepIn K (.ref f3) = true)
    (a4 : PySem.W.nsIn K mainGlobals "_law_whole" = some (some (.ref f4)))
    (l4 : K.lookup f4 = some ⟨oc4, od4, .func (PySem.W.fnOf "_law_whole" "_law_whole" (defArgs s_l_whole) (defBody s_l_whole) (defScope s_l_whole) .none kV4 dc4 pm4 an4 cd4 ct4), sl4⟩)
    (c4 : PySem.W.codeIn K cd4 "_law_whole" = true) (k4 : PySem.W.keepIn K (.ref f4) = true)
    (a5 : PySem.W.nsIn K mainGlobals "_law_row" = some (some (.ref f5)))
    (l5 : K.lookup f5 = some ⟨oc5, od5, .func (PySem.W.fnOf "_law_row" "_law_row" (defArgs s_l_row) (defBody s_l_row) (defScope s_l_row) .none kV5 dc5 pm5 an5 cd5 ct5), sl5⟩)
    (c5 : PySem.W.codeIn K cd5 "_law_row" = true) (k5 : PySem.W.keepIn K (.ref f5) = true)
    (a6 : PySem.W.nsIn K mainGlobals "_law_due" = some (some (.ref f6)))
    (l6 : K.lookup f6 = some ⟨oc6, od6, .func (PySem.W.fnOf "_law_due" "_law_due" (defArgs s_l_due) (defBody s_l_due) (defScope s_l_due) .none kV6 dc6 pm6 an6 cd6 ct6), sl6⟩)
    (c6 : PySem.W.codeIn K cd6 "_law_due" = true) (k6 : PySem.W.keepIn K (.ref f6) = true)
    (a7 : PySem.W.nsIn K mainGlobals "_law_right" = some (some (.ref f7)))
    (l7 : K.lookup f7 = some ⟨oc7, od7, .func (PySem.W.fnOf "_law_right" "_law_right" (defArgs s_l_right) (defBody s_l_right) (defScope s_l_right) .none kV7 dc7 pm7 an7 cd7 ct7), sl7⟩)
    (c7 : PySem.W.codeIn K cd7 "_law_right" = true) (k7 : PySem.W.keepIn K (.ref f7) = true)
    (a8 : PySem.W.nsIn K mainGlobals "law" = some (some (.ref f8)))
    (l8 : K.lookup f8 = some ⟨oc8, od8, .func (PySem.W.fnOf "law" "law" (defArgs s_law) (defBody s_law) (defScope s_law) .none kV8 dc8 pm8 an8 cd8 ct8), sl8⟩)
    (c8 : PySem.W.codeIn K cd8 "law" = true) (k8 : PySem.W.keepIn K (.ref f8) = true)
    (z_bool : PySem.W.nsIn K mainGlobals "bool" = some none)
    (z_int : PySem.W.nsIn K mainGlobals "int" = some none)
    (z_isinstance : PySem.W.nsIn K mainGlobals "isinstance" = some none)
    (z_len : PySem.W.nsIn K mainGlobals "len" = some none)
    (z_list : PySem.W.nsIn K mainGlobals "list" = some none)
    (z_range : PySem.W.nsIn K mainGlobals "range" = some none)
    (z_sum : PySem.W.nsIn K mainGlobals "sum" = some none)
    (m_BEGIN : PySem.W.nsIn K mainGlobals "BEGIN" = some (some u_BEGIN)) (r_BEGIN : RelV (.int 65535) u_BEGIN)
    (m_FEED : PySem.W.nsIn K mainGlobals "FEED" = some (some u_FEED)) (r_FEED : RelV (.int 4129) u_FEED)
    (m_TOP : PySem.W.nsIn K mainGlobals "TOP" = some (some u_TOP)) (r_TOP : RelV (.int 32768) u_TOP) :
    ∃ fd : FuncData, (∀ (s : Shared) (v : Value), BindsTo s fd ⟨[v], []⟩ [("_law_script", v)]) ∧ ∀ base : Heap, K.In base → base.Ns mainGlobals mg → FnOk l.prog w K mg base CX0 5 fa fd ["_law_script"] (spLaw K) := by
  have e := hfa.symm.trans (PySem.W.mg_of X G a8)
  cases e
  have F0 := fun_mk (st := s_crc_on) l0 c0 k0
  have b0 := F0.binds (ps := ["begun", "row"]) fun _ _ _ _ _ _ us hl => match us, hl with | [_, _], _ => rfl
  have F1 := fun_mk (st := s_crc) l1 c1 k1
  have b1 := F1.binds (ps := ["row"]) fun _ _ _ _ _ _ us hl => match us, hl with | [_], _ => rfl
  have F2 := fun_mk (st := s_crc_row) l2 c2 k2
  have b2 := F2.binds (ps := ["row"]) fun _ _ _ _ _ _ us hl => match us, hl with | [_], _ => rfl
  have F3 := fun_mk (st := s_l_mixed) l3 c3 k3
  have b3 := F3.binds (ps := ["_law_cell", "_law_k"]) fun _ _ _ _ _ _ us hl => match us, hl with | [_, _], _ => rfl
  have F4 := fun_mk (st := s_l_whole) l4 c4 k4
  have b4 := F4.binds (ps := ["_law_found"]) fun _ _ _ _ _ _ us hl => match us, hl with | [_], _ => rfl
  have F5 := fun_mk (st := s_l_row) l5 c5 k5
  have b5 := F5.binds (ps := ["_law_cell", "_law_most"]) fun _ _ _ _ _ _ us hl => match us, hl with | [_, _], _ => rfl
  have F6 := fun_mk (st := s_l_due) l6 c6 k6
  have b6 := F6.binds (ps := ["_law_begun", "_law_row_here"]) fun _ _ _ _ _ _ us hl => match us, hl with | [_, _], _ => rfl
  have F7 := fun_mk (st := s_l_right) l7 c7 k7
  have b7 := F7.binds (ps := ["_law_cell"]) fun _ _ _ _ _ _ us hl => match us, hl with | [_], _ => rfl
  have F8 := fun_mk (st := s_law) l8 c8 k8
  have b8 := F8.binds (ps := ["_law_script"]) fun _ _ _ _ _ _ us hl => match us, hl with | [_], _ => rfl
  exact ⟨_, fun s v => .of_eq rfl, fun base _ _ => ok_law (K := K) (mg := mg) { a_crc_on := f0, d_crc_on := _, F_crc_on := F0, b_crc_on := b0, g_crc_on := PySem.W.mg_of X G a0, a_crc := f1, d_crc := _, F_crc := F1, b_crc := b1, g_crc := PySem.W.mg_of X G a1, a_crc_row := f2, d_crc_row := _, F_crc_row := F2, b_crc_row := b2, g_crc_row := PySem.W.mg_of X G a2, a_l_mixed := f3, d_l_mixed := _, F_l_mixed := F3, b_l_mixed := b3, g_l_mixed := PySem.W.mg_of X G a3, a_l_whole := f4, d_l_whole := _, F_l_whole := F4, b_l_whole := b4, g_l_whole := PySem.W.mg_of X G a4, a_l_row := f5, d_l_row := _, F_l_row := F5, b_l_row := b5, g_l_row := PySem.W.mg_of X G a5, a_l_due := f6, d_l_due := _, F_l_due := F6, b_l_due := b6, g_l_due := PySem.W.mg_of X G a6, a_l_right := f7, d_l_right := _, F_l_right := F7, b_l_right := b7, g_l_right := PySem.W.mg_of X G a7, a_law := fa, d_law := _, F_law := F8, b_law := b8, g_law := PySem.W.mg_of X G a8, z_bool := PySem.W.mg_none_of X G z_bool, z_int := PySem.W.mg_none_of X G z_int, z_isinstance := PySem.W.mg_none_of X G z_isinstance, z_len := PySem.W.mg_none_of X G z_len, z_list := PySem.W.mg_none_of X G z_list, z_range := PySem.W.mg_none_of X G z_range, z_sum := PySem.W.mg_none_of X G z_sum, u_BEGIN := u_BEGIN, m_BEGIN := PySem.W.mg_of X G m_BEGIN, r_BEGIN := r_BEGIN, u_FEED := u_FEED, m_FEED := PySem.W.mg_of X G m_FEED, r_FEED := r_FEED, u_TOP := u_TOP, m_TOP := PySem.W.mg_of X G m_TOP, r_TOP := r_TOP }⟩
theorem walk {l : PySem.W.OpenLaw} {q : Program} {loose : List Str} {XP : (Str → Option Value) → Heap → Prop} {YP : World → Heap → Prop} {d : DefRec} {K : Params → PySem.W.Frag} (hn : l.most = some 63) (hdf : d.params.defaults = [])
    (hY : ∀ (w : World) (h : Heap), YP w h → (K w.params).In h)
    (F : ∀ (w : World) (mg : Str → Option Value) (fa : Addr) (h : Heap), (K w.params).In h → h.Ns mainGlobals mg → mg d.name = some (.ref fa) →
      ∃ fd : FuncData, (∀ (s : Shared) (u : Value), BindsTo s fd ⟨[u], []⟩ [("_law_script", u)]) ∧ ∀ base : Heap, (K w.params).In base → base.Ns mainGlobals mg → FnOk l.prog w (K w.params) mg base CX0 5 fa fd ["_law_script"] (spLaw (K w.params))) :
    PySem.W.WalkO q loose XP YP l.row.toRowW d [] (fun f vs => PySem.call f vs) :=
  L2.walk_of (n := 63) (k := 5) (x := "_law_script") (CX := fun _ => CX0) (sp := fun w => spLaw (K w.params)) hn (by decide) hdf ⟨rfl, by decide, by decide⟩ hY F (fun _ _ a ns hl hO hS => ⟨a, ns, rfl, hS, hl, Z.only_nd hO, fun _ => rfl⟩) fun _ _ _ _ _ z => z
end K05
open PySem PySem.W PyProof.Rows in
set_option maxRecDepth 100000 in
set_option maxHeartbeats 0 in
theorem PySem.Challenge.cw_tornshelf_k05_sums_of_rows_holds : PySem.Challenge.rw_tornshelf_k05_sums_of_rows.Holds := by
  w_on; o_law; k_head; (case hw => w_witness2)
  k_fill
  refine K05.walk (l := PySem.Challenge.rw_tornshelf_k05_sums_of_rows) rfl rfl (fun w h Y => PySem.W.kIn_of Y) ?F
  case F =>
    intro w mg fa h KX G hmg
    refine' K05.all_mk KX G hmg ?a0 ?l0 ?c0 ?k0 ?a1 ?l1 ?c1 ?k1 ?a2 ?l2 ?c2 ?k2 ?a3 ?l3 ?c3 ?k3 ?a4 ?l4 ?c4 ?k4 ?a5 ?l5 ?c5 ?k5 ?a6 ?l6 ?c6 ?k6 ?a7 ?l7 ?c7 ?k7 ?a8 ?l8 ?c8 ?k8 ?z_bool ?z_int ?z_isinstance ?z_len ?z_list ?z_range ?z_sum ?m_BEGIN ?r_BEGIN ?m_FEED ?r_FEED ?m_TOP ?r_TOP
    (case a0 => k_is)
    (case l0 => k_is)
    (case c0 => k_is)
    (case k0 => k_is)
    (case a1 => k_is)
    (case l1 => k_is)
    (case c1 => k_is)
    (case k1 => k_is)
    (case a2 => k_is)
    (case l2 => k_is)
    (case c2 => k_is)
    (case k2 => k_is)
    (case a3 => k_is)
    (case l3 => k_is)
    (case c3 => k_is)
    (case k3 => k_is)
    (case a4 => k_is)
    (case l4 => k_is)
    (case c4 => k_is)
    (case k4 => k_is)
    (case a5 => k_is)
    (case l5 => k_is)
    (case c5 => k_is)
    (case k5 => k_is)
    (case a6 => k_is)
    (case l6 => k_is)
    (case c6 => k_is)
    (case k6 => k_is)
    (case a7 => k_is)
    (case l7 => k_is)
    (case c7 => k_is)
    (case k7 => k_is)
    (case a8 => k_is)
    (case l8 => k_is)
    (case c8 => k_is)
    (case k8 => k_is)
    (case z_bool => k_is)
    (case z_int => k_is)
    (case z_isinstance => k_is)
    (case z_len => k_is)
    (case z_list => k_is)
    (case z_range => k_is)
    (case z_sum => k_is)
    (case m_BEGIN => k_is)
    (case r_BEGIN => first | exact ⟨_, rfl⟩ | rfl)
    (case m_FEED => k_is)
    (case r_FEED => first | exact ⟨_, rfl⟩ | rfl)
    (case m_TOP => k_is)
    (case r_TOP => first | exact ⟨_, rfl⟩ | rfl)

