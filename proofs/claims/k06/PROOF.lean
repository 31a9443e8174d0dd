import PyProof.Rows.All
import Wide.All
import OpenK.AllK
import Wide.FinOn
import HandS.ForMost
import HandS.IsInst
import HandS.Flow
import PySem.Challenge.RW_tornshelf_k06_whole_bursts_are_told
set_option Elab.async false
set_option linter.all false
set_option maxRecDepth 100000
set_option maxHeartbeats 4000000
namespace Z
open PySem L2
/-! ## Forgetting what a piece of code has made and dropped -/
def isDT : HO → Bool
  | .dT _ => true
  | .frz _ u => isDT u
  | _ => false
def okA (G : Hp) (a : Addr) : HO → Prop
  | .ins _ dx _ => G dx = some (.own a)
  | .frz _ u => okA G a u
  | _ => True
def kept : HO → Bool
  | .tup _ => true
  | .frz _ _ => true
  | .tbl _ => true
  | _ => false
/-- from H on, H' was reached; G, a part of H', is all that is still told -/
structure Gc (H H' G : Hp) : Prop where
  sub : ∀ a o, G a = some o → H' a = some o
  ok : ∀ a o, G a = some o → okA G a o ∨ (H a = some o ∧ ∀ b, H b = some (.own a) → G b = some (.own a))
  keep : ∀ b o, H b = some o → kept o = true → G b = some o
  dt : (∀ a o, G a = some o → isDT o = false) ∨ ∀ b xs, H' b = some (.tup xs) → G b = some (.tup xs)
section
variable {P : Program} {w : World} {H H' G : Hp} {h : Heap} {a : Addr} {o : HO}
theorem obj_sub (x : ObjOk P w H' h a o) (k : okA G a o) (d : isDT o = false ∨ ∀ b xs, H' b = some (.tup xs) → G b = some (.tup xs)) : ObjOk P w G h a o := by
  induction o with
  | lst xs => exact x
  | tup xs => exact x
  | dK kvs => exact x
  | dT kvs =>
    rcases d with d | d
    · cases d
    · obtain ⟨z, y, xs, r, q⟩ := x
      exact ⟨z, y, xs, Paired.mapP r fun p q z => ⟨z.1, d _ _ z.2.1, z.2.2⟩, q⟩
  | set S n => exact x
  | ins C dx fs => exact ⟨k, x.2⟩
  | own y => exact x
  | xd fs => exact x
  | rng lo hi => exact x
  | frz ob u ih => exact ⟨x.1, ih x.2 k d⟩
  | tbl ps => exact x
  | met f y => exact x
  | ext φ => exact x
theorem okA_of (x : ObjOk P w H h a o) (k : ∀ b, H b = some (.own a) → G b = some (.own a)) : okA G a o := by
  induction o with
  | ins C dx fs => exact k _ x.1
  | frz ob u ih => exact ih x.2
  | _ => trivial
end
section
variable {X : Cx} {pins pins' : List (Addr × Obj)} {σ σ' : List (Option V)} {H H' G : Hp} {s s' : Shared}
theorem none_sub (g : Gc H H' G) {b : Addr} (e : H' b = none) : G b = none := by
  cases q : G b with
  | none => rfl
  | some o => rw [g.sub b o q] at e; cases e
theorem inv_gc (hk : HOk X.prog X.w H s.heap) (I : Inv X pins σ H s) (J : Inv X pins' σ' H' s') (g : Gc H H' G) : Inv X pins' σ' G s' where
  ok := J.ok
  os := J.os
  bare := J.bare
  base :=
    { keep := J.base.keep
      slot := J.base.slot
      free := fun b o q n hx => none_sub g (J.base.free b o q n hx)
      there := J.base.there
      tups := fun b xs q => g.keep b _ (I.base.tups b xs q) rfl
      frzs := fun b o u q => g.keep b _ (I.base.frzs b o u q) rfl
      tbls := fun b ps q => by
        obtain ⟨more, e⟩ := I.base.tbls b ps q
        exact ⟨more, g.keep b _ e rfl⟩ }
  loc := J.loc
  cell := J.cell
  free := none_sub g J.free
  freeC := fun x c e => none_sub g (J.freeC x c e)
  pin := fun p hp => ⟨(J.pin p hp).1, none_sub g (J.pin p hp).2.1, (J.pin p hp).2.2⟩
  hok := fun a o e => by
    have x : ObjOk X.prog X.w H' s'.heap a o := J.hok a o (g.sub a o e)
    refine obj_sub x ?_ ?_
    · rcases g.ok a o e with k | ⟨q, k⟩
      · exact k
      · exact okA_of (hk a o q) k
    · rcases g.dt with d | d
      · exact .inl (d a o e)
      · exact .inr d
  len := J.len
/-- an expression, what it made and dropped forgotten -/
def tGc (t : TE) : TE := fun σ H Q => t σ H fun v H' => ∃ G, Gc H H' G ∧ Q v G
def uGc (t : TT) : TT := fun σ H Q => t σ H fun v H' => ∃ G, Gc H H' G ∧ Q v G
def sGc (t : TS) : TS := fun D σ H => t ⟨fun σ' H' => ∃ G, Gc H H' G ∧ D.nx σ' G, fun v H' => ∃ G, Gc H H' G ∧ D.rt v G, fun σ' H' => ∃ G, Gc H H' G ∧ D.bk σ' G, fun σ' H' => ∃ G, Gc H H' G ∧ D.ct σ' G⟩ σ H
theorem pe_gc {e : Expr} {t : TE} (h : PE X e t) : PE X e (tGc t) := by
  refine ⟨fun pins s σ H Q I q => thn (h.run pins s σ H _ I q) fun u s1 ⟨v, H1, I1, r, G, g, q1⟩ => ?_⟩
  exact ⟨v, G, inv_gc I.hok I I1 g, r, q1⟩
theorem pt_gc {e : Expr} {t : TT} (h : PT X e t) : PT X e (uGc t) := by
  refine ⟨fun pins s σ H Q I q => thn (h.run pins s σ H _ I q) fun u s1 ⟨H1, I1, G, g, q1⟩ => ?_⟩
  exact ⟨G, inv_gc I.hok I I1 g, q1⟩
theorem sp_gc {pins : List (Addr × Obj)} {σ : St} {H : Hp} {s s1 : Shared} {D : Ends} {f : Flow} (I : Inv X pins σ H s)
    (q : SP X pins ⟨fun σ' H' => ∃ G, Gc H H' G ∧ D.nx σ' G, fun v H' => ∃ G, Gc H H' G ∧ D.rt v G, fun σ' H' => ∃ G, Gc H H' G ∧ D.bk σ' G, fun σ' H' => ∃ G, Gc H H' G ∧ D.ct σ' G⟩ f s1) : SP X pins D f s1 := by
  cases f with
  | next =>
    obtain ⟨σ1, H1, I1, G, g, q1⟩ := q
    exact ⟨σ1, G, inv_gc I.hok I I1 g, q1⟩
  | brk =>
    obtain ⟨σ1, H1, I1, G, g, q1⟩ := q
    exact ⟨σ1, G, inv_gc I.hok I I1 g, q1⟩
  | cont =>
    obtain ⟨σ1, H1, I1, G, g, q1⟩ := q
    exact ⟨σ1, G, inv_gc I.hok I I1 g, q1⟩
  | ret u =>
    obtain ⟨v, σ1, H1, I1, r, G, g, q1⟩ := q
    exact ⟨v, σ1, G, inv_gc I.hok I I1 g, r, q1⟩
theorem ps_gc {st : Stmt} {t : TS} (h : PS X st t) : PS X st (sGc t) := ⟨fun pins s σ H D I q => thn (h.run pins s σ H _ I q) fun _ _ q1 => sp_gc I q1⟩
theorem pss_gc {st : List Stmt} {t : TS} (h : PSs X st t) : PSs X st (sGc t) := ⟨fun pins s σ H D I q => thn (h.run pins s σ H _ I q) fun _ _ q1 => sp_gc I q1⟩
end
/-- no dict with tuples for keys -/
def ND (H : Hp) : Prop := ∀ a o, H a = some o → isDT o = false
theorem ND.upd {H : Hp} {p : Addr} {o : HO} (h : ND H) (ho : isDT o = false := by rfl) : ND (upd H p o) := fun a u e => by
  by_cases q : a = p
  · subst q; rw [upd_same] at e; cases e; exact ho
  · rw [upd_ne q] at e; exact h a u e
theorem only_nd {H : Hp} (h : L2.Only H) : ND H := fun a o e => by
  rcases h a with q | ⟨o', xs, q⟩
  · rw [q] at e; cases e
  · rw [q] at e; cases e; rfl
section
variable {H H' G H1 : Hp} {p q : Addr} {o : HO}
theorem gc_same (h : Same H H') (nd : ND H) : Gc H H' H := ⟨h, fun a o e => .inr ⟨e, fun _ q => q⟩, fun _ _ e _ => e, .inl nd⟩
/-- where no tuple is new -/
theorem gc_sameT (h : Same H H') (nt : ∀ b xs, H' b = some (.tup xs) → H b = some (.tup xs)) : Gc H H' H := ⟨h, fun a o e => .inr ⟨e, fun _ q => q⟩, fun _ _ e _ => e, .inr nt⟩
def flatO : HO → Bool
  | .ins _ _ _ => false
  | .frz _ _ => false
  | .dT _ => false
  | _ => true
theorem okA_flat {G : Hp} {a : Addr} {o : HO} (h : flatO o = true) : okA G a o := by
  cases o <;> first | trivial | cases h
theorem isDT_flat {o : HO} (h : flatO o = true) : isDT o = false := by
  cases o <;> first | rfl | cases h
theorem okA_upd {G : Hp} {a p : Addr} {o u : HO} (e : H' p = some o) (sub : ∀ a o, G a = some o → H' a = some o) (k : okA G a u) : okA (upd G p o) a u := by
  induction u with
  | ins C dx fs =>
    show upd G p o dx = _
    by_cases q : dx = p
    · subst q
      have e2 : H' dx = some (.own a) := sub _ _ k
      rw [e] at e2
      rw [upd_same, e2]
    · rw [upd_ne q]
      exact k
  | frz ob u ih => exact ih k
  | _ => trivial
theorem upd_sub {G : Hp} {p b : Addr} {o u : HO} (e : H' p = some o) (h : H' b = some u) (k : G b = some u) : upd G p o b = some u := by
  by_cases q : b = p
  · subst q
    rw [upd_same, ← e, h]
  · rw [upd_ne q]
    exact k
/-- one more thing is told -/
theorem Gc.put (g : Gc H H' G) (e : H' p = some o) (f : flatO o = true := by rfl) : Gc H H' (upd G p o) where
  sub := fun a u h => by
    by_cases q : a = p
    · subst q; rw [upd_same] at h; cases h; exact e
    · rw [upd_ne q] at h; exact g.sub a u h
  ok := fun a u h => by
    by_cases q : a = p
    · subst q; rw [upd_same] at h; cases h; exact .inl (okA_flat f)
    · rw [upd_ne q] at h
      rcases g.ok a u h with k | ⟨k1, k2⟩
      · exact .inl (okA_upd e g.sub k)
      · exact .inr ⟨k1, fun b hb => upd_sub e (g.sub _ _ (k2 b hb)) (k2 b hb)⟩
  keep := fun b u h k => upd_sub e (g.sub _ _ (g.keep b u h k)) (g.keep b u h k)
  dt := by
    rcases g.dt with d | d
    · refine .inl fun a u h => ?_
      by_cases q : a = p
      · subst q; rw [upd_same] at h; cases h; exact isDT_flat f
      · rw [upd_ne q] at h; exact d a u h
    · exact .inr fun b xs h => upd_sub e h (d b xs h)
theorem same_up (h : Same H H1) (hq : H q = none) : Same H (upd H1 q o) := fun b u e => by
  rw [upd_ne (ne_of_none e hq)]
  exact h b u e
theorem same_new (h : Same H H1) (hq : H1 q = none) : Same H (upd H1 q o) := same_up h (h.free hq)
theorem upd_none {a : Addr} : upd H p o a = none ↔ a ≠ p ∧ H a = none := by
  unfold upd
  by_cases e : a = p
  · simp [e]
  · simp [e]
end

/-! ## Rules that serve several kinds at once -/
section
variable {X : Cx}
theorem OpR.or {f : Value → Value → Sem Value} {r r' : R2} (a : OpR X f r) (b : OpR X f r') : OpR X f (fun x y H Q => r x y H Q ∨ r' x y H Q) :=
  fun pins s σ H x y v u Q I rx ry h => h.elim (fun h => a pins s σ H x y v u Q I rx ry h) fun h => b pins s σ H x y v u Q I rx ry h
theorem CallR.or {f : Value} {r r' : List V → Hp → VK → Prop} (a : CallR X f r) (b : CallR X f r') : CallR X f (fun x H Q => r x H Q ∨ r' x H Q) :=
  fun pins s σ H xs us Q I rx h => h.elim (fun h => a pins s σ H xs us Q I rx h) fun h => b pins s σ H xs us Q I rx h
/-- list + list, both to be read -/
def rCatZ (K : PySem.W.Frag) : R2 := fun x y H Q => ∃ l b xs zs, x = .ref l ∧ y = .ref b ∧ SqL K H l xs ∧ SqL K H b zs ∧ xs.length + zs.length ≤ sizeLine ∧ ∀ p, H p = none → Q (.ref p) (upd H p (.lst (xs ++ zs)))
def rAddZ (K : PySem.W.Frag) : R2 := fun x y H Q => (rI0 (fun i j => .int (i + j)) x y H Q ∨ ∃ i j, x = .str i ∧ y = .str j ∧ i.length + j.length ≤ sizeLine ∧ Q (.str (i ++ j)) H) ∨ rCatZ K x y H Q
theorem op_catZ : OpR X (binaryOp .Add) (rCatZ X.K) := by
  intro pins s σ H x y v u Q I rx ry h
  obtain ⟨l, b, xs, zs, rfl, rfl, hH, hB, hz, q⟩ := h
  cases rx
  cases ry
  obtain ⟨its, r, pl, z⟩ := I.list hH
  obtain ⟨its2, r2, pl2, z2⟩ := I.list hB
  have l1 := r.length
  have l2 := r2.length
  obtain ⟨⟨cls, dd, data, sl⟩, ho, hc, n, hd⟩ := pl.isList
  obtain ⟨⟨cls2, dd2, data2, sl2⟩, ho2, hc2, n2, hd2⟩ := pl2.isList
  simp only at hc hd hc2 hd2
  subst hc hd hc2 hd2
  have e : its.toArray ++ its2.toArray = (its ++ its2).toArray := by simp
  refine concat_meets ⟨_, ho, rfl⟩ ⟨_, ho2, rfl⟩ noFill_list_add seq_list_add PySem.F.slot_list_add PySem.F.entry_list_add (PySem.F.args_list_add_2 _ _) (PyProof.Rows.list_addW l b its.toArray its2.toArray n n2 dd dd2 sl sl2 (by simp only [List.size_toArray]; omega)) ⟨ho, ho2, ?_⟩
  rw [e]
  exact ⟨.ref _, _, I.lnew (t' := s.toks) (r.append r2) (by rw [List.length_append]; omega), rfl, q _ I.fresh⟩
theorem op_addZ {K : PySem.W.Frag} (hK : X.K = K) : OpR X (binaryOp .Add) (rAddZ K) := by subst hK; exact OpR.or (OpR.or op_add op_add_str) op_catZ
def rMulZ : R2 := fun x y H Q => rI CMul (fun i j => .int (i * j)) x y H Q ∨ rRep x y H Q
theorem op_mulZ : OpR X (binaryOp .Mult) rMulZ := OpR.or op_mul op_rep
def rEqZ (K : PySem.W.Frag) : R2 := fun x y H Q => rEq x y H Q ∨ rEqD K x y H Q
def rNeZ (K : PySem.W.Frag) : R2 := fun x y H Q => rNe x y H Q ∨ rNeD K x y H Q
theorem op_eqZ {K : PySem.W.Frag} (hK : X.K = K) (hu : X.A.units + 64 < cLine) : OpR X (compareOp .Eq) (rEqZ K) := by subst hK; exact OpR.or op_eq (op_eqD hu)
theorem op_neZ {K : PySem.W.Frag} (hK : X.K = K) (hu : X.A.units + 64 < cLine) : OpR X (compareOp .NotEq) (rNeZ K) := by subst hK; exact OpR.or op_ne (op_neD hu)
end

/-! ## Further rules -/
section
variable {X : Cx}
/-- len of a text, a list, a tuple -/
def rLenZ (K : PySem.W.Frag) : List V → Hp → VK → Prop := fun xs H Q => ∃ x n, xs = [x] ∧ LenV K x H n ∧ Q (.int n) H
theorem call_lenZ {K : PySem.W.Frag} (hK : X.K = K) : CallR X (.builtin "len") (rLenZ K) := by subst hK; exact call_len
def rSlZ (K : PySem.W.Frag) : V → Option Int → Option Int → Hp → VK → Prop := fun x lo hi H Q => rSlL K x lo hi H Q ∨ rSlS x lo hi H Q
theorem sl_Z {K : PySem.W.Frag} (hK : X.K = K) : SlR X (rSlZ K) := by subst hK; exact SlR.or sl_list sl_str
theorem ix_seqZ {K : PySem.W.Frag} (hK : X.K = K) : IxR X (rIx K) := by subst hK; exact ix_seq
def tTruZ (K : PySem.W.Frag) (ta : TE) : TT := fun σ H Q => ta σ H fun x H' => ∃ k, TruV K x H' k ∧ Q k H'
theorem pt_truthZ {K : PySem.W.Frag} {a : Expr} {ta : TE} (hK : X.K = K) (ha : PE X a ta) (he : ∀ whole, isTrue a X.env whole = (do let v ← whole; standAt a.pos; holding [v] (truthy v))) : PT X a (tTruZ K ta) := by subst hK; exact pt_truth ha he
theorem call_isiZ {K : PySem.W.Frag} (hK : X.K = K) : CallR X (.builtin "isinstance") (rIsi K) := by subst hK; exact call_isi
def rListOf (K : PySem.W.Frag) : List V → Hp → VK → Prop := fun xs H Q => ∃ p ys, xs = [.ref p] ∧ (SqL K H p ys ∨ SqT K H p ys) ∧ ∀ l, H l = none → Q (.ref l) (upd H l (.lst ys))
theorem call_listZ {K : PySem.W.Frag} (hK : X.K = K) : CallR X (.type "list") (rListOf K) := by subst hK; exact call_list_of
theorem cr_sumZ {K : PySem.W.Frag} (hK : X.K = K) (hc : X.calm = true) : CallR X (.builtin "sum") (rSum K) := by subst hK; exact cr_sum hc
theorem cr_allZ {K : PySem.W.Frag} (hK : X.K = K) (hc : X.calm = true) : CallR X (.builtin "all") (rAll K) := by subst hK; exact cr_all hc
theorem cr_anyZ {K : PySem.W.Frag} (hK : X.K = K) (hc : X.calm = true) : CallR X (.builtin "any") (rAny K) := by subst hK; exact cr_any hc
theorem cr_maxZ {K : PySem.W.Frag} (hK : X.K = K) (hc : X.calm = true) : CallR X (.builtin "max") (rMax K) := by subst hK; exact cr_max hc
theorem cr_minZ {K : PySem.W.Frag} (hK : X.K = K) (hc : X.calm = true) : CallR X (.builtin "min") (rMin K) := by subst hK; exact cr_min hc
theorem pi_listZ {K : PySem.W.Frag} {tg l : Expr} {tl : TE} (hK : X.K = K) (hl : PE X l tl) : PI X tg l (iList K tl) := by subst hK; exact pi_list hl
theorem pi_tupZ {K : PySem.W.Frag} {tg l : Expr} {tl : TE} (hK : X.K = K) (hl : PE X l tl) : PI X tg l (iTup K tl) := by subst hK; exact pi_tup hl
theorem pi_enumZ {K : PySem.W.Frag} {e : Expr} {ta : TA} {p pos tpos : Pos} {elts : List Expr} {kk : Nat} (hK : X.K = K) (hg : Gl X "enumerate") (hm : X.mg "enumerate" = none) (ha : PA X [e] ta) (hs : starEach [e] X.env = [(false, eval e X.env)] := by rfl) :
    PI X (.Tuple elts kk tpos) (.Call (.Name "enumerate" p) [e] [] pos) (iEnum K ta) := by subst hK; exact pi_enum hg hm ha hs
theorem pi_zipZ {K : PySem.W.Frag} {e e2 : Expr} {ta : TA} {p pos tpos : Pos} {elts : List Expr} {kk : Nat} (hK : X.K = K) (hg : Gl X "zip") (hm : X.mg "zip" = none) (ha : PA X [e, e2] ta)
    (hs : starEach [e, e2] X.env = (false, eval e X.env) :: starEach [e2] X.env := by rfl) (hpl : (backTo pos (starEach [e2] X.env)).any (·.1) = false := by rfl) :
    PI X (.Tuple elts kk tpos) (.Call (.Name "zip" p) [e, e2] [] pos) (iZip K ta) := by subst hK; exact pi_zip hg hm ha hs hpl
theorem pe_fldZ {K : PySem.W.Frag} {e : Expr} {f : Str} {pos : Pos} {ta : TE} (hK : X.K = K) (he : PE X e ta) (hb : attributeBase e f X.env (eval e X.env) = eval e X.env) : PE X (.Attribute e f pos) (tFld K ta f) := by subst hK; exact pe_fld he hb
theorem pg_tupZ {K : PySem.W.Frag} {es : List Expr} {k : Nat} {t : TGs} {n : Nat} {pos : Pos} (hK : X.K = K) (hc : X.calm = true) (h : PGs X es t)
    (hn : (assignEach es X.env).length = n := by rfl) (hst : (assignEach es X.env).findIdx? (·.1) = none := by rfl) : PG X (.Tuple es k pos) (gTup K n t) := by subst hK; exact pg_tup hc h hn hst
theorem pe_bmZ {K : PySem.W.Frag} {o e : Expr} {es : List Expr} {to : TE} {t : TA} {name : Str} {apos cpos : Pos} {T id : String} {r : V → List V → Hp → VK → Prop} (hK : X.K = K) (pa : PlainAttrs T) (slot : Slot T name id) (hty : typeOf (.builtin id) = pure (.type "method_descriptor")) (hm : MtR X id r) (ho : PE X o to) (ha : PA X (e :: es) t)
    (hbase : attributeBase o name X.env (eval o X.env) = eval o X.env := by rfl)
    (hfew : ((backTo cpos (starEach (e :: es) X.env)).all (fun x => !x.1) && (backToKw cpos (keywordEach [] X.env)).all (fun x => x.1.isSome)
      && decide ((e :: es).length + ([] : List Keyword).length + (if ([] : List Keyword).isEmpty then 0 else 1) < 30)) = true := by rfl)
    (hline : (apos.endLine == cpos.line) = true := by rfl) (hs : starEach (e :: es) X.env = (false, eval e X.env) :: starEach es X.env := by rfl) (hplain : (backTo cpos (starEach es X.env)).any (·.1) = false := by rfl) :
    PE X (.Call (.Attribute o name apos) (e :: es) [] cpos) (tBM K T r to t) := by subst hK; exact pe_bm pa slot hty hm ho ha hbase hfew hline hs hplain
theorem pe_bm0Z {K : PySem.W.Frag} {o : Expr} {to : TE} {name : Str} {apos cpos : Pos} {T id : String} {r : V → List V → Hp → VK → Prop} (hK : X.K = K) (pa : PlainAttrs T) (slot : Slot T name id) (hty : typeOf (.builtin id) = pure (.type "method_descriptor")) (hm : MtR X id r) (ho : PE X o to)
    (hbase : attributeBase o name X.env (eval o X.env) = eval o X.env := by rfl) (hline : (apos.endLine == cpos.line) = true := by rfl) : PE X (.Call (.Attribute o name apos) [] [] cpos) (tBM0 K T r to) := by subst hK; exact pe_bm0 pa slot hty hm ho hbase hline
def tCallZ (sp : Sp) (E : XK) (t : TA) : TE := fun σ H Q => t σ H fun vs H1 => sp vs H1 Q E
variable {CX : CXT} {k : Nat} {f C : Addr} {fd : FuncData} {ps : List Str} {sp : Sp} {E : XK} {x m : Str} {p pos apos : Pos} {e o : Expr} {es : List Expr} {ta : TE} {t : TA}
theorem callZ_eq : tCall sp [] E t = tCallZ sp E t := by
  funext σ H Q
  show t σ H (fun vs H1 => sp (vs ++ []) H1 Q E) = t σ H fun vs H1 => sp vs H1 Q E
  simp only [List.append_nil]
theorem pe_callZ (F : FnOk X.prog X.w X.K X.mg X.base CX k f fd ps sp) (hr : Room k X.A) (hg : Gl X x) (hm : X.mg x = some (.ref f)) (hk : PySem.W.keepIn X.K (.ref f) = true) (hb : Binds X.K fd ps []) (hx : Passes CX X E)
    (ha : PA X (e :: es) t) (hdb : (x == ("__debug__" : Str)) = false := by decide) (he : starEach (e :: es) X.env = (false, eval e X.env) :: starEach es X.env := by rfl) (hpl : (backTo pos (starEach es X.env)).any (·.1) = false := by rfl) :
    PE X (.Call (.Name x p) (e :: es) [] pos) (tCallZ sp E t) := by
  rw [← callZ_eq]
  exact pe_call F hr hg hm hk hb .nil hx ha hdb he hpl
theorem pe_call0Z (F : FnOk X.prog X.w X.K X.mg X.base CX k f fd ps sp) (hr : Room k X.A) (hg : Gl X x) (hm : X.mg x = some (.ref f)) (hk : PySem.W.keepIn X.K (.ref f) = true) (hb : Binds X.K fd ps []) (hx : Passes CX X E)
    (hdb : (x == ("__debug__" : Str)) = false := by decide) : PE X (.Call (.Name x p) [] [] pos) (tCallZ sp E tNil) := by
  rw [← callZ_eq]
  exact pe_call0 F hr hg hm hk hb .nil hx hdb
end
/-! ## Steps: what a reading asks, one construct at a time -/
section
variable {K : PySem.W.Frag} {σ : St} {H : Hp} {nx bk ct : St → Hp → Prop} {rt : VK} {t u : TS} {te ta tb tc : TE} {tt uu : TT} {Q : VK} {QB : Bool → Hp → Prop} {QA : List V → Hp → Prop} {QO : Option Int → Hp → Prop} {v : V} {i : Nat} {b : Bool} {tr : TA}
theorem z_seq (h : t ⟨fun σ H => u ⟨nx, rt, bk, ct⟩ σ H, rt, bk, ct⟩ σ H) : tSeq t u ⟨nx, rt, bk, ct⟩ σ H := h
theorem z_asg (h : te σ H fun x H1 => nx (σ.set i (some x)) H1) : tAsg te (gName i) ⟨nx, rt, bk, ct⟩ σ H := h
theorem z_asgS {to ti : TE} {ts : TSet} (h : te σ H fun x H1 => to σ H1 fun o H2 => ti σ H2 fun j H3 => ts o j x H3 fun H4 => nx σ H4) : tAsg te (gSub to ti ts) ⟨nx, rt, bk, ct⟩ σ H := h
theorem z_asgT {n : Nat} {g : TGs} (h : te σ H fun x H1 => gTup K n g x σ H1 nx) : tAsg te (gTup K n g) ⟨nx, rt, bk, ct⟩ σ H := h
theorem z_drop (h : te σ H fun _ H1 => nx σ H1) : tDrop te ⟨nx, rt, bk, ct⟩ σ H := h
theorem z_ret (h : te σ H fun v H1 => rt v H1) : tRet te ⟨nx, rt, bk, ct⟩ σ H := h
theorem z_retN (h : rt .non H) : tRetN ⟨nx, rt, bk, ct⟩ σ H := h
theorem z_next (h : nx σ H) : tNext ⟨nx, rt, bk, ct⟩ σ H := h
theorem z_brk (h : bk σ H) : tBreak ⟨nx, rt, bk, ct⟩ σ H := h
theorem z_cont (h : ct σ H) : tCont ⟨nx, rt, bk, ct⟩ σ H := h
theorem z_ifS (h : tt σ H fun b H1 => if b = true then t ⟨nx, rt, bk, ct⟩ σ H1 else u ⟨nx, rt, bk, ct⟩ σ H1) : tIfS tt t u ⟨nx, rt, bk, ct⟩ σ H := h
theorem z_sgc (h : t ⟨fun σ' H' => ∃ G, Gc H H' G ∧ nx σ' G, fun v H' => ∃ G, Gc H H' G ∧ rt v G, fun σ' H' => ∃ G, Gc H H' G ∧ bk σ' G, fun σ' H' => ∃ G, Gc H H' G ∧ ct σ' G⟩ σ H) : sGc t ⟨nx, rt, bk, ct⟩ σ H := h
theorem z_aug {x : V} {ti : TIp} (e : σ[i]? = some (some x)) (h : te σ H fun y H1 => ti x y H1 fun z H2 => nx (σ.set i (some z)) H2) : tAug i te ti ⟨nx, rt, bk, ct⟩ σ H := ⟨x, e, h⟩
theorem z_ipI {f : Int → Int → Int} {i j : Int} (h : Q (.int (f i j)) H) : ipI f (.int i) (.int j) H Q := ⟨i, j, rfl, rfl, h⟩
theorem z_tgc (h : te σ H fun v H' => ∃ G, Gc H H' G ∧ Q v G) : tGc te σ H Q := h
theorem z_ugc (h : tt σ H fun v H' => ∃ G, Gc H H' G ∧ QB v G) : uGc tt σ H QB := h
theorem z_var (e : σ[i]? = some (some v)) (h : Q v H) : tVar i σ H Q := ⟨v, e, h⟩
theorem z_c (h : Q v H) : tC v σ H Q := h
theorem z_op {r : R2} (h : ta σ H fun x H1 => tb σ H1 fun y H2 => r x y H2 Q) : tOp r ta tb σ H Q := h
theorem z_un {r : V → Hp → VK → Prop} (h : ta σ H fun x H1 => r x H1 Q) : tUn r ta σ H Q := h
theorem z_rU {g : Int → V} {i : Int} (h : Q (g i) H) : rU g (.int i) H Q := ⟨i, rfl, h⟩
theorem z_cb {r : List V → Hp → VK → Prop} (h : tr σ H fun vs H1 => r vs H1 Q) : tCB r tr σ H Q := h
theorem z_call {sp : Sp} {E : XK} (h : tr σ H fun vs H1 => sp vs H1 Q E) : tCallZ sp E tr σ H Q := h
theorem z_nil (h : QA [] H) : tNil σ H QA := h
theorem z_cons (h : ta σ H fun x H1 => tr σ H1 fun xs H2 => QA (x :: xs) H2) : tCons ta tr σ H QA := h
theorem z_tst (h : te σ H fun x H' => ∃ k, x = .bl k ∧ QB k H') : tTest te σ H QB := h
theorem z_tB (h : te σ H fun x H' => ∃ k, x = .bl k ∧ QB k H') : tB te σ H QB := h
theorem z_bl {Qb : Bool → Prop} (h : Qb b) : ∃ k, V.bl b = .bl k ∧ Qb k := ⟨b, rfl, h⟩
theorem z_and (h : tt σ H fun c H1 => if c = true then uu σ H1 QB else QB false H1) : tAnd tt uu σ H QB := h
theorem z_or (h : tt σ H fun c H1 => if c = true then QB true H1 else uu σ H1 QB) : tOr tt uu σ H QB := h
theorem z_not (h : tt σ H fun c H1 => QB (!c) H1) : tNot tt σ H QB := h
theorem z_andV (h : ta σ H fun x H1 => ∃ c, x = .bl c ∧ if c = true then tb σ H1 Q else Q (.bl false) H1) : tAndV ta tb σ H Q := h
theorem z_orV (h : ta σ H fun x H1 => ∃ c, x = .bl c ∧ if c = true then Q (.bl true) H1 else tb σ H1 Q) : tOrV ta tb σ H Q := h
theorem z_notV (h : ta σ H fun x H1 => ∃ c, x = .bl c ∧ Q (.bl (!c)) H1) : tNotV ta σ H Q := h
theorem z_ifE (h : tt σ H fun c H1 => if c = true then ta σ H1 Q else tb σ H1 Q) : tIf tt ta tb σ H Q := h
theorem z_chain {r r' : R2} (h : ta σ H fun x H1 => tb σ H1 fun y H2 => r x y H2 fun z H3 => ∃ k, z = .bl k ∧ (if k = true then tc σ H3 fun w' H4 => r' y w' H4 Q else Q (.bl false) H3)) : tChain r r' ta tb tc σ H Q := h
theorem z_truZ (h : ta σ H fun x H' => ∃ k, TruV K x H' k ∧ QB k H') : tTruZ K ta σ H QB := h
theorem z_truB {Qb : Bool → Prop} (h : Qb b) : ∃ k, TruV K (.bl b) H k ∧ Qb k := ⟨b, rfl, h⟩
theorem z_truI {Qb : Bool → Prop} {i : Int} (h : Qb (!decide (i = 0))) : ∃ k, TruV K (.int i) H k ∧ Qb k := ⟨i != 0, rfl, by
  have e : (i != 0) = !decide (i = 0) := by
    by_cases q : i = 0
    · simp [q]
    · simp [q]
  rw [e]
  exact h⟩
theorem z_lst (h : tr σ H fun xs H1 => xs.length ≤ sizeLine ∧ ∀ p, H1 p = none → Q (.ref p) (upd H1 p (.lst xs))) : tLst tr σ H Q := h
theorem z_tup (h : tr σ H fun xs H1 => xs.length ≤ sizeLine ∧ ∀ p, H1 p = none → Q (.ref p) (upd H1 p (.tup xs))) : tTup tr σ H Q := h
theorem z_sl {r : V → Option Int → Option Int → Hp → VK → Prop} {tl th : TO} (h : te σ H fun x H1 => tl σ H1 fun l H2 => th σ H2 fun u H3 => r x l u H3 Q) : tSl r te tl th σ H Q := h
theorem z_nopart (h : QO none H) : tNoPart σ H QO := h
theorem z_part (h : te σ H fun x H1 => ∃ i, x = .int i ∧ QO (some i) H1) : tPart te σ H QO := h
theorem z_int {Qi : Int → Prop} {i : Int} (h : Qi i) : ∃ j, V.int i = .int j ∧ Qi j := ⟨i, rfl, h⟩
/-! ### operators -/
theorem z_I0 {g : Int → Int → V} {i j : Int} (h : Q (g i j) H) : rI0 g (.int i) (.int j) H Q := ⟨i, j, rfl, rfl, h⟩
theorem z_I {C : Int → Int → Prop} {g : Int → Int → V} {i j : Int} (c : C i j) (h : Q (g i j) H) : rI C g (.int i) (.int j) H Q := ⟨i, j, rfl, rfl, c, h⟩
theorem z_addI {i j : Int} (h : Q (.int (i + j)) H) : rAddZ K (.int i) (.int j) H Q := .inl (.inl ⟨i, j, rfl, rfl, h⟩)
theorem z_addS {x y : Str} (c : x.length + y.length ≤ sizeLine) (h : Q (.str (x ++ y)) H) : rAddZ K (.str x) (.str y) H Q := .inl (.inr ⟨x, y, rfl, rfl, c, h⟩)
theorem z_cat {a c : Addr} {xs zs : List V} (ha : SqL K H a xs) (hc : SqL K H c zs) (z : xs.length + zs.length ≤ sizeLine) (h : ∀ p, H p = none → Q (.ref p) (upd H p (.lst (xs ++ zs)))) : rAddZ K (.ref a) (.ref c) H Q :=
  .inr ⟨a, c, xs, zs, rfl, rfl, ha, hc, z, h⟩
theorem z_mulI {i j : Int} (c : CMul i j) (h : Q (.int (i * j)) H) : rMulZ (.int i) (.int j) H Q := .inl ⟨i, j, rfl, rfl, c, h⟩
theorem z_rep {a : Addr} {xs : List V} {k : Int} (ha : H a = some (.lst xs)) (h1 : -(2 ^ 63) ≤ k) (h2 : k < 2 ^ 63) (z : xs.length * k.toNat ≤ sizeLine) (h : ∀ p, H p = none → Q (.ref p) (upd H p (.lst (List.replicate k.toNat xs).flatten))) : rMulZ (.ref a) (.int k) H Q :=
  .inr ⟨a, k, xs, rfl, rfl, ha, h1, h2, z, h⟩
theorem z_eqI {i j : Int} (h : Q (.bl (decide (i = j))) H) : rEqZ K (.int i) (.int j) H Q := .inl ⟨rfl, by
  have e : decide (V.int i = V.int j) = decide (i = j) := by simp
  rw [e]; exact h⟩
theorem z_neI {i j : Int} (h : Q (.bl (!decide (i = j))) H) : rNeZ K (.int i) (.int j) H Q := .inl ⟨rfl, by
  have e : decide (V.int i = V.int j) = decide (i = j) := by simp
  rw [e]; exact h⟩
theorem z_eqS {x y : Str} (h : Q (.bl (decide (x = y))) H) : rEqZ K (.str x) (.str y) H Q := .inl ⟨rfl, by
  have e : decide (V.str x = V.str y) = decide (x = y) := by simp
  rw [e]; exact h⟩
theorem z_neS {x y : Str} (h : Q (.bl (!decide (x = y))) H) : rNeZ K (.str x) (.str y) H Q := .inl ⟨rfl, by
  have e : decide (V.str x = V.str y) = decide (x = y) := by simp
  rw [e]; exact h⟩
/-! ### tests that are open -/
theorem z_if {p A B : Prop} [Decidable p] (h1 : p → A) (h2 : ¬ p → B) : if decide p = true then A else B := by
  by_cases h : p
  · rw [if_pos (decide_eq_true h)]; exact h1 h
  · rw [if_neg (by rw [decide_eq_false h]; exact Bool.false_ne_true)]; exact h2 h
theorem z_ifn {p A B : Prop} [Decidable p] (h1 : ¬ p → A) (h2 : p → B) : if (!decide p) = true then A else B := by
  by_cases h : p
  · rw [if_neg (by rw [decide_eq_true h]; exact Bool.false_ne_true)]; exact h2 h
  · rw [if_pos (by rw [decide_eq_false h]; rfl)]; exact h1 h
theorem z_nn (h : Q (.bl b) H) : Q (.bl (!!b)) H := by rw [Bool.not_not]; exact h
theorem z_iT {A B : Prop} (h : A) : if true = true then A else B := by rw [if_pos rfl]; exact h
theorem z_iF {A B : Prop} (h : B) : if false = true then A else B := by rw [if_neg Bool.false_ne_true]; exact h
theorem z_inF {A B : Prop} (h : A) : if (!false) = true then A else B := h
theorem z_inT {A B : Prop} (h : B) : if (!true) = true then A else B := by
  rw [if_neg (by decide)]; exact h
/-! ### lists that are read -/
theorem at_int {ns : List Int} {i : Int} (h0 : 0 ≤ i) (h1 : i < ns.length) : atI (ns.map V.int) i = some (.int (ns.getD i.toNat 0)) := by
  obtain ⟨n, rfl⟩ : ∃ n : Nat, i = (n : Int) := ⟨i.toNat, (Int.toNat_of_nonneg h0).symm⟩
  have hl : n < ns.length := by omega
  rw [Int.toNat_natCast]
  refine atI_nat ?_
  rw [List.getElem?_map, List.getElem?_eq_getElem hl]
  simp [List.getD, hl]
theorem z_ixL {a : Addr} {xs : List V} {i : Int} (ha : SqL K H a xs) (hi : atI xs i = some v) (h : Q v H) : rIx K (.ref a) (.int i) H Q := .inl ⟨a, xs, i, v, rfl, rfl, ha, hi, h⟩
theorem z_ixT {a : Addr} {xs : List V} {i : Int} (ha : SqT K H a xs) (hi : atI xs i = some v) (h : Q v H) : rIx K (.ref a) (.int i) H Q := .inr (.inl ⟨a, xs, i, v, rfl, rfl, ha, hi, h⟩)
theorem z_ixI {a : Addr} {ns : List Int} {i : Int} (ha : SqL K H a (ns.map V.int)) (h0 : 0 ≤ i) (h1 : i < ns.length) (h : Q (.int (ns.getD i.toNat 0)) H) : rIx K (.ref a) (.int i) H Q := z_ixL ha (at_int h0 h1) h
theorem z_setI {a : Addr} {ns : List Int} {i w : Int} {R : Hp → Prop} (ha : H a = some (.lst (ns.map V.int))) (h0 : 0 ≤ i) (h1 : i < ns.length) (h : R (upd H a (.lst ((ns.set i.toNat w).map V.int)))) : rSetL (.ref a) (.int i) (.int w) H R :=
  ⟨a, _, i, i.toNat, rfl, rfl, ha, by unfold ixN; rw [if_pos h0, List.length_map, if_pos h1], by rw [← List.map_set]; exact h⟩
theorem z_lenL {a : Addr} {xs : List V} (ha : SqL K H a xs) (h : Q (.int (xs.length : Int)) H) : rLenZ K [.ref a] H Q := ⟨_, xs.length, rfl, .inl ⟨xs, ha, rfl⟩, h⟩
theorem z_lenI {a : Addr} {ns : List Int} (ha : SqL K H a (ns.map V.int)) (h : Q (.int (ns.length : Int)) H) : rLenZ K [.ref a] H Q := z_lenL ha (by rw [List.length_map]; exact h)
theorem z_slL {a : Addr} {xs : List V} {lo hi : Option Int} (ha : SqL K H a xs) (h : ∀ p, H p = none → Q (.ref p) (upd H p (.lst (cutV xs lo hi)))) : rSlZ K (.ref a) lo hi H Q := .inl ⟨a, xs, rfl, ha, h⟩
theorem z_slS {x : Str} {lo hi : Option Int} (c : x.length ≤ sizeLine) (h : Q (.str (cutS x lo hi)) H) : rSlZ K (.str x) lo hi H Q := .inr ⟨x, rfl, c, h⟩
theorem sq_up {a p : Addr} {o : HO} {xs : List V} (hp : H p = none) (h : SqL K H a xs) : SqL K (upd H p o) a xs := (same_up (fun _ _ e => e) hp : Same H (upd H p o)).seq h
end

theorem cx_K {CX : CXT} {P : Program} {w : World} {K : PySem.W.Frag} {mg : Str → Option Value} {base : Heap} {N : List Str} {qual : Str} {scope : Scope} {f : Addr} {cd : Value} {A : Around} {outer : List Env} {s : Shared} {H : Hp} {E : XK} :
    (cxOf CX P w K mg base N qual scope f cd A outer s H E).K = K := rfl

/-! ## Loops, what a turn made and dropped forgotten at its end -/
structure Rt (X : Cx) (H : Hp) : Prop where
  keep : ∀ b o, X.H_0 b = some o → kept o = true → ∃ u, H b = some u ∧ kept u = true ∧ (∀ xs, o = .tup xs → u = o) ∧ (∀ ob u', o = .frz ob u' → u = o) ∧ ∀ ps, o = .tbl ps → ∃ more, u = .tbl (ps ++ more)
  cl : ∀ a o (G : Hp), H a = some o → (∀ b, H b = some (.own a) → G b = some (.own a)) → okA G a o
section
variable {X : Cx}
theorem Rt.of {pins : List (Addr × Obj)} {σ : List (Option V)} {H : Hp} {s : Shared} (I : Inv X pins σ H s) : Rt X H where
  keep := fun b o e k => by
    cases o with
    | tup xs => exact ⟨_, I.base.tups b xs e, rfl, fun _ _ => rfl, fun _ _ _ => rfl, fun _ q => nomatch q⟩
    | frz ob u => exact ⟨_, I.base.frzs b ob u e, rfl, fun _ _ => rfl, fun _ _ _ => rfl, fun _ q => nomatch q⟩
    | tbl ps =>
      obtain ⟨more, q⟩ := I.base.tbls b ps e
      exact ⟨_, q, rfl, fun _ z => (nomatch z), fun _ _ z => (nomatch z), fun _ z => by cases z; exact ⟨more, rfl⟩⟩
    | _ => cases k
  cl := fun a o G e k => okA_of (I.hok a o e) k
theorem inv_gcR {pins : List (Addr × Obj)} {σ : List (Option V)} {H H' G : Hp} {s : Shared} (R : Rt X H) (J : Inv X pins σ H' s) (g : Gc H H' G) : Inv X pins σ G s where
  ok := J.ok
  os := J.os
  bare := J.bare
  base :=
    { keep := J.base.keep
      slot := J.base.slot
      free := fun b o q n hx => none_sub g (J.base.free b o q n hx)
      there := J.base.there
      tups := fun b xs q => by
        obtain ⟨u, e, k, h1, _, _⟩ := R.keep b _ q rfl
        rw [h1 _ rfl] at e k
        exact g.keep b _ e k
      frzs := fun b o u q => by
        obtain ⟨u', e, k, _, h1, _⟩ := R.keep b _ q rfl
        rw [h1 _ _ rfl] at e k
        exact g.keep b _ e k
      tbls := fun b ps q => by
        obtain ⟨u', e, k, _, _, h1⟩ := R.keep b _ q rfl
        obtain ⟨more, rfl⟩ := h1 _ rfl
        exact ⟨more, g.keep b _ e k⟩ }
  loc := J.loc
  cell := J.cell
  free := none_sub g J.free
  freeC := fun x c e => none_sub g (J.freeC x c e)
  pin := fun p hp => ⟨(J.pin p hp).1, none_sub g (J.pin p hp).2.1, (J.pin p hp).2.2⟩
  hok := fun a o e => by
    have x : ObjOk X.prog X.w H' s.heap a o := J.hok a o (g.sub a o e)
    refine obj_sub x ?_ ?_
    · rcases g.ok a o e with k | ⟨q, k⟩
      · exact k
      · exact R.cl a o G q k
    · rcases g.dt with d | d
      · exact .inl (d a o e)
      · exact .inr d
  len := J.len
/-- a block whose leavings are forgotten as from the heap H0 -/
def sGcE (H0 : Hp) (t : TS) : TS := fun D σ H => t ⟨fun σ' H' => ∃ G, Gc H0 H' G ∧ D.nx σ' G, fun v H' => ∃ G, Gc H0 H' G ∧ D.rt v G, fun σ' H' => ∃ G, Gc H0 H' G ∧ D.bk σ' G, fun σ' H' => ∃ G, Gc H0 H' G ∧ D.ct σ' G⟩ σ H
theorem pss_gcE {H0 : Hp} (R : Rt X H0) {st : List Stmt} {t : TS} (h : PSs X st t) : PSs X st (sGcE H0 t) := ⟨fun pins s σ H D I q => thn (h.run pins s σ H _ I q) fun f s1 q1 => by
  cases f with
  | next =>
    obtain ⟨σ1, H1, I1, G, g, q1⟩ := q1
    exact ⟨σ1, G, inv_gcR R I1 g, q1⟩
  | brk =>
    obtain ⟨σ1, H1, I1, G, g, q1⟩ := q1
    exact ⟨σ1, G, inv_gcR R I1 g, q1⟩
  | cont =>
    obtain ⟨σ1, H1, I1, G, g, q1⟩ := q1
    exact ⟨σ1, G, inv_gcR R I1 g, q1⟩
  | ret u =>
    obtain ⟨v, σ1, H1, I1, r, G, g, q1⟩ := q1
    exact ⟨v, σ1, G, inv_gcR R I1 g, r, q1⟩⟩
def ForZ (J : It) (g : TG) (tb : TS) : TS := fun D σ H => ∃ W : Nat → Nat → St → Hp → Prop, (∃ m, W 0 m σ H) ∧ ∀ i m σ H, W i m σ H →
  (J.stop i H ∧ D.nx σ H) ∨ (J.go i H ∧ ∃ N : St → Hp → Prop, (∀ σ' H', N σ' H' → ∃ m', m' < m ∧ W (i + 1) m' σ' H') ∧ ∀ x H', J.yld i H x H' → g x σ H' fun σ2 H2 => tb { D with nx := N, ct := N, bk := D.nx } σ2 H2)
def tForZ (wi : TI) (g : TG) (tb : TS) : TS := fun D σ H => wi σ H fun J H1 => ForZ J g (sGcE H tb) D σ H1
theorem ps_forZ {tg iter : Expr} {body : List Stmt} {wi : TI} {g : TG} {tb : TS} {pos : Pos} (hp : PassesOwn (model X.prog X.w) X.A X.env X.xe) (hc : X.calm = true) (hi : PI X tg iter wi) (hg : PG X tg g) (hb : PSs X body tb)
    (hs : ∀ x, foldedSetIterable iter X.env x = pure x := by intro _; rfl) : PS X (.For tg iter body [] pos) (tForZ wi g tb) :=
  ⟨fun pins s σ H D I h => (ps_for hp hc hi hg (pss_gcE (Rt.of I) hb) hs).run pins s σ H D I h⟩
def tWhileZ (c : TT) (tb : TS) : TS := fun D σ H => tWhile c (sGcE H tb) D σ H
theorem ps_whileZ {c : Expr} {body : List Stmt} {tc : TT} {tb : TS} {pos : Pos} (hp : PassesOwn (model X.prog X.w) X.A X.env X.xe) (hc : PT X c tc) (hb : PSs X body tb) : PS X (.While c body [] pos) (tWhileZ tc tb) :=
  ⟨fun pins s σ H D I h => (ps_while hp hc (pss_gcE (Rt.of I) hb)).run pins s σ H D I h⟩
end
section
variable {K : PySem.W.Frag} {σ : St} {H H0 : Hp} {nx bk ct : St → Hp → Prop} {rt : VK} {tb : TS} {g : TG} {a : Addr} {xs : List V} {tr : TA} {te : TE}
theorem z_forR1 (h : tr σ H fun vs H1 => ∃ n : Int, vs = [.int n] ∧ -(2 ^ 62) ≤ n ∧ n < 2 ^ 62 ∧ ForZ (Itr 0 n.toNat) g (sGcE H tb) ⟨nx, rt, bk, ct⟩ σ H1) : tForZ (iRng1 tr) g tb ⟨nx, rt, bk, ct⟩ σ H := h
theorem z_forR2 (h : tr σ H fun vs H1 => ∃ i j : Int, vs = [.int i, .int j] ∧ (-(2 ^ 62) ≤ i ∧ i < 2 ^ 62 ∧ -(2 ^ 62) ≤ j ∧ j < 2 ^ 62) ∧ ForZ (Itr i (j - i).toNat) g (sGcE H tb) ⟨nx, rt, bk, ct⟩ σ H1) : tForZ (iRng2 tr) g tb ⟨nx, rt, bk, ct⟩ σ H := h
theorem z_forL (h : te σ H fun x H1 => ∃ a, x = .ref a ∧ (∃ xs, SqL K H1 a xs) ∧ ForZ (Itl K a) g (sGcE H tb) ⟨nx, rt, bk, ct⟩ σ H1) : tForZ (iList K te) g tb ⟨nx, rt, bk, ct⟩ σ H := h
theorem z_forT (h : te σ H fun x H1 => ∃ a, x = .ref a ∧ (∃ xs, SqT K H1 a xs) ∧ ForZ (Itt K a) g (sGcE H tb) ⟨nx, rt, bk, ct⟩ σ H1) : tForZ (iTup K te) g tb ⟨nx, rt, bk, ct⟩ σ H := h
theorem z_forE (h : tr σ H fun vs H1 => ∃ a xs, vs = [.ref a] ∧ SqL K H1 a xs ∧ ForZ (Ite K a) g (sGcE H tb) ⟨nx, rt, bk, ct⟩ σ H1) : tForZ (iEnum K tr) g tb ⟨nx, rt, bk, ct⟩ σ H := h
theorem z_rn1 {R : Int → Prop} {n : Int} (h0 : -(2 ^ 62) ≤ n) (h1 : n < 2 ^ 62) (h : R n) : ∃ m : Int, [V.int n] = [V.int m] ∧ -(2 ^ 62) ≤ m ∧ m < 2 ^ 62 ∧ R m := ⟨n, rfl, h0, h1, h⟩
theorem z_rn2 {R : Int → Int → Prop} {m n : Int} (h0 : -(2 ^ 62) ≤ m ∧ m < 2 ^ 62 ∧ -(2 ^ 62) ≤ n ∧ n < 2 ^ 62) (h : R m n) : ∃ i j : Int, [V.int m, V.int n] = [V.int i, V.int j] ∧ (-(2 ^ 62) ≤ i ∧ i < 2 ^ 62 ∧ -(2 ^ 62) ≤ j ∧ j < 2 ^ 62) ∧ R i j := ⟨m, n, rfl, h0, h⟩
/-- over a range, by what holds between the turns -/
theorem f_range {lo : Int} {n : Nat} (Pv : Nat → St → Hp → Prop) (h0 : Pv 0 σ H)
    (hs : ∀ i σ H, i < n → Pv i σ H → g (.int (lo + i)) σ H fun σ2 H2 => tb ⟨fun σ' H' => ∃ G, Gc H0 H' G ∧ Pv (i + 1) σ' G, fun v H' => ∃ G, Gc H0 H' G ∧ rt v G, fun σ' H' => ∃ G, Gc H0 H' G ∧ nx σ' G, fun σ' H' => ∃ G, Gc H0 H' G ∧ Pv (i + 1) σ' G⟩ σ2 H2) (hd : ∀ σ H, Pv n σ H → nx σ H) :
    ForZ (Itr lo n) g (sGcE H0 tb) ⟨nx, rt, bk, ct⟩ σ H := for_range (D := ⟨nx, rt, bk, ct⟩) (tb := sGcE H0 tb) Pv h0 hs hd
theorem f_list (Pv : Nat → St → Hp → Prop) (h0 : Pv 0 σ H) (hl : ∀ i σ H, i ≤ xs.length → Pv i σ H → SqL K H a xs)
    (hs : ∀ i x σ H, xs[i]? = some x → Pv i σ H → g x σ H fun σ2 H2 => tb ⟨fun σ' H' => ∃ G, Gc H0 H' G ∧ Pv (i + 1) σ' G, fun v H' => ∃ G, Gc H0 H' G ∧ rt v G, fun σ' H' => ∃ G, Gc H0 H' G ∧ nx σ' G, fun σ' H' => ∃ G, Gc H0 H' G ∧ Pv (i + 1) σ' G⟩ σ2 H2) (hd : ∀ σ H, Pv xs.length σ H → nx σ H) :
    ForZ (Itl K a) g (sGcE H0 tb) ⟨nx, rt, bk, ct⟩ σ H := for_list (D := ⟨nx, rt, bk, ct⟩) (tb := sGcE H0 tb) Pv h0 hl hs hd
theorem f_tup (Pv : Nat → St → Hp → Prop) (h0 : Pv 0 σ H) (hl : ∀ i σ H, i ≤ xs.length → Pv i σ H → SqT K H a xs)
    (hs : ∀ i x σ H, xs[i]? = some x → Pv i σ H → g x σ H fun σ2 H2 => tb ⟨fun σ' H' => ∃ G, Gc H0 H' G ∧ Pv (i + 1) σ' G, fun v H' => ∃ G, Gc H0 H' G ∧ rt v G, fun σ' H' => ∃ G, Gc H0 H' G ∧ nx σ' G, fun σ' H' => ∃ G, Gc H0 H' G ∧ Pv (i + 1) σ' G⟩ σ2 H2) (hd : ∀ σ H, Pv xs.length σ H → nx σ H) :
    ForZ (Itt K a) g (sGcE H0 tb) ⟨nx, rt, bk, ct⟩ σ H := for_tup (D := ⟨nx, rt, bk, ct⟩) (tb := sGcE H0 tb) Pv h0 hl hs hd
/-- over a list of whole numbers -/
theorem f_ints {ns : List Int} (Pv : Nat → St → Hp → Prop) (h0 : Pv 0 σ H) (hl : ∀ i σ H, i ≤ ns.length → Pv i σ H → SqL K H a (ns.map V.int))
    (hs : ∀ (i : Nat) (n : Int) σ H, ns[i]? = some n → Pv i σ H → g (.int n) σ H fun σ2 H2 => tb ⟨fun σ' H' => ∃ G, Gc H0 H' G ∧ Pv (i + 1) σ' G, fun v H' => ∃ G, Gc H0 H' G ∧ rt v G, fun σ' H' => ∃ G, Gc H0 H' G ∧ nx σ' G, fun σ' H' => ∃ G, Gc H0 H' G ∧ Pv (i + 1) σ' G⟩ σ2 H2) (hd : ∀ σ H, Pv ns.length σ H → nx σ H) :
    ForZ (Itl K a) g (sGcE H0 tb) ⟨nx, rt, bk, ct⟩ σ H :=
  f_list (xs := ns.map V.int) Pv h0 (fun i σ H hi => hl i σ H (by rw [List.length_map] at hi; exact hi)) (fun i x σ H hx p => by
    rw [List.getElem?_map] at hx
    cases e : ns[i]? with
    | none => rw [e] at hx; cases hx
    | some n => rw [e] at hx; cases hx; exact hs i n σ H e p) (fun σ H p => hd σ H (by rw [List.length_map] at p; exact p))
theorem z_gn {i : Nat} {v : V} {Q : St → Hp → Prop} (h : Q (σ.set i (some v)) H) : gName i v σ H Q := h
/-! ### forgetting nothing -/
def Mu (H : Hp) (p : Addr) : Prop := ∀ o, H p = some o → kept o = false ∧ ∀ a, o ≠ .own a
theorem mu_none {p : Addr} (h : H p = none) : Mu H p := fun o e => by rw [h] at e; cases e
theorem mu_lst {p : Addr} {ys : List V} (h : H p = some (.lst ys)) : Mu H p := fun o e => by rw [h] at e; cases e; exact ⟨rfl, fun _ q => nomatch q⟩
theorem mu_dK {p : Addr} {ys : List (Key × V)} (h : H p = some (.dK ys)) : Mu H p := fun o e => by rw [h] at e; cases e; exact ⟨rfl, fun _ q => nomatch q⟩
theorem mu_ins {p C dx : Addr} {ys : List (Str × V)} (h : H p = some (.ins C dx ys)) : Mu H p := fun o e => by rw [h] at e; cases e; exact ⟨rfl, fun _ q => nomatch q⟩
theorem mu_atL {p : Addr} {ys : List V} : Mu (upd H p (.lst ys)) p := mu_lst upd_same
theorem mu_atD {p : Addr} {ys : List (Key × V)} : Mu (upd H p (.dK ys)) p := mu_dK upd_same
theorem mu_up {p q : Addr} {o : HO} (h : Mu H p) (e : p ≠ q) : Mu (upd H q o) p := fun u z => by rw [upd_ne e] at z; exact h u z
theorem gc_refl : Gc H H H := ⟨fun _ _ e => e, fun a o e => .inr ⟨e, fun _ q => q⟩, fun _ _ e _ => e, .inr fun _ _ e => e⟩
theorem gc_up {H' : Hp} {p : Addr} {o : HO} (g : Gc H H' H') (m : Mu H p) (m' : Mu H' p) (f : flatO o = true := by rfl) : Gc H (upd H' p o) (upd H' p o) where
  sub := fun _ _ e => e
  ok := fun a u h => by
    by_cases q : a = p
    · subst q; rw [upd_same] at h; cases h; exact .inl (okA_flat f)
    · rw [upd_ne q] at h
      rcases g.ok a u h with k | ⟨k1, k2⟩
      · refine .inl ?_
        clear h
        induction u with
        | ins C dx fs =>
          show upd H' p o dx = _
          have z : dx ≠ p := fun z => by subst z; exact (m' _ k).2 _ rfl
          rw [upd_ne z]; exact k
        | frz ob u ih => exact ih k
        | _ => trivial
      · refine .inr ⟨k1, fun b hb => ?_⟩
        have z : b ≠ p := fun z => by subst z; exact (m _ hb).2 _ rfl
        rw [upd_ne z]
        exact k2 b hb
  keep := fun b u h k => by
    have z : b ≠ p := fun z => by subst z; rw [(m _ h).1] at k; cases k
    rw [upd_ne z]
    exact g.keep b u h k
  dt := .inr fun _ _ e => e
end

/-! ## Comprehensions -/
def LcZ (J : It) (g : TG) (tt : TT) (te : TE) (vs : List Nat) : TE := fun σ H1 Q => ∀ D, H1 D = none → ∃ W : Nat → Nat → Hp → Prop, (∃ m, W 0 m (upd H1 D (.lst []))) ∧ ∀ i m H, W i m H →
  (J.stop i H ∧ Q (.ref D) H) ∨ (J.go i H ∧ ∃ Nx : Hp → Prop, (∀ H', Nx H' → ∃ m', m' < m ∧ W (i + 1) m' H') ∧ ∀ x H', J.yld i H x H' → g x (wipe σ vs) H' fun σ2 H2 => wipe σ2 vs = wipe σ vs ∧ tt σ2 H2 fun b H3 =>
    if b = true then te σ2 H3 fun y H4 => ∃ acc, H4 D = some (.lst acc) ∧ acc.length < sizeLine ∧ Nx (upd H4 D (.lst (acc ++ [y]))) else Nx H3)
section
variable {K : PySem.W.Frag} {σ : St} {H : Hp} {Q : VK} {g : TG} {tt : TT} {te tl : TE} {ws : List Nat} {tr : TA} {a : Addr} {j : Nat}
theorem z_lcR1 (h : tr σ H fun vs H1 => ∃ n : Int, vs = [.int n] ∧ -(2 ^ 62) ≤ n ∧ n < 2 ^ 62 ∧ LcZ (Itr 0 n.toNat) g tt te ws σ H1 Q) : tLc (iRng1 tr) g tt te ws σ H Q := h
theorem z_lcR2 (h : tr σ H fun vs H1 => ∃ i j : Int, vs = [.int i, .int j] ∧ (-(2 ^ 62) ≤ i ∧ i < 2 ^ 62 ∧ -(2 ^ 62) ≤ j ∧ j < 2 ^ 62) ∧ LcZ (Itr i (j - i).toNat) g tt te ws σ H1 Q) : tLc (iRng2 tr) g tt te ws σ H Q := h
theorem z_lcL (h : tl σ H fun x H1 => ∃ a, x = .ref a ∧ (∃ xs, SqL K H1 a xs) ∧ LcZ (Itl K a) g tt te ws σ H1 Q) : tLc (iList K tl) g tt te ws σ H Q := h
theorem z_lcS (h : tl σ H fun v H1 => ∃ x, v = .str x ∧ LcZ (Its x) g tt te ws σ H1 Q) : tLc (iStr tl) g tt te ws σ H Q := h
theorem c_range {lo : Int} {n : Nat} (f : Nat → V) (hz : n ≤ sizeLine) (hw : ∀ x, wipe ((wipe σ ws).set j (some x)) ws = wipe σ ws)
    (he : ∀ (i : Nat) H1 (R : VK), i < n → Same H H1 → R (f i) H1 → te ((wipe σ ws).set j (some (.int (lo + i)))) H1 R)
    (k : ∀ D, H D = none → Q (.ref D) (upd H D (.lst ((List.range n).map f)))) : LcZ (Itr lo n) (gName j) tYes te ws σ H Q := fun D hD =>
  lc_range (lo := lo) (n := n) (g := gName j) (tt := tYes) (te := te) (vs := ws) (σ := σ) (fun i H' => H' = upd H D (.lst ((List.range i).map f))) rfl (fun i H' hi e => by
    subst e
    refine ⟨hw _, ?_⟩
    unfold tYes
    refine iteT ?_
    refine he i _ _ hi (same_up (fun _ _ e => e) hD) ⟨_, upd_same, by simp; omega, ?_⟩
    rw [upd_upd, List.range_succ, List.map_append] <;> rfl) fun H' e => by subst e; exact k D hD
theorem c_list {xs : List V} (f : V → V) (hx : SqL K H a xs) (hw : ∀ x, wipe ((wipe σ ws).set j (some x)) ws = wipe σ ws) (hz : xs.length ≤ sizeLine)
    (he : ∀ (i : Nat) (x : V) H1 (R : VK), xs[i]? = some x → Same H H1 → R (f x) H1 → te ((wipe σ ws).set j (some x)) H1 R)
    (k : ∀ D, H D = none → Q (.ref D) (upd H D (.lst (xs.map f)))) : LcZ (Itl K a) (gName j) tYes te ws σ H Q := fun D hD =>
  lc_list (K := K) (a := a) (xs := xs) (g := gName j) (tt := tYes) (te := te) (vs := ws) (σ := σ) (fun i H' => H' = upd H D (.lst ((xs.take i).map f))) (by simp) (fun i H' _ e => by subst e; exact sq_up hD hx) (fun i x H' hi e => by
    subst e
    refine ⟨hw _, ?_⟩
    unfold tYes
    refine iteT ?_
    have hlt := (List.getElem?_eq_some_iff.mp hi).1
    refine he i x _ _ hi (same_up (fun _ _ e => e) hD) ⟨_, upd_same, by simp; omega, ?_⟩
    rw [upd_upd]
    have e2 : xs.take (i + 1) = xs.take i ++ [x] := by rw [List.take_add_one, hi] <;> rfl
    rw [e2, List.map_append] <;> rfl) fun H' e => by subst e; have := k D hD; rw [List.take_length]; exact this
theorem c_ints {ns : List Int} (f : Int → V) (hx : SqL K H a (ns.map V.int)) (hw : ∀ x, wipe ((wipe σ ws).set j (some x)) ws = wipe σ ws) (hz : ns.length ≤ sizeLine)
    (he : ∀ (i : Nat) (x : Int) H1 (R : VK), ns[i]? = some x → Same H H1 → R (f x) H1 → te ((wipe σ ws).set j (some (.int x))) H1 R)
    (k : ∀ D, H D = none → Q (.ref D) (upd H D (.lst (ns.map f)))) : LcZ (Itl K a) (gName j) tYes te ws σ H Q :=
  c_list (xs := ns.map V.int) (fun v => match v with | .int i => f i | v => v) hx hw (by rw [List.length_map]; exact hz) (fun i x H1 R hi s q => by
    rw [List.getElem?_map] at hi
    cases e : ns[i]? with
    | none => rw [e] at hi; cases hi
    | some n => rw [e] at hi; cases hi; exact he i n H1 R e s q) fun D hD => by
      have := k D hD
      rw [List.map_map]
      exact this
end
/-! ## isinstance, ends, bits -/
section
variable {K : PySem.W.Frag} {σ : St} {H : Hp} {Q : VK} {R : Hp → Prop}
theorem z_isi {x : V} {n m : String} {b : Bool} (ty : TyX K H x (.type n)) (e : PySem.W.kitOne K (.type n) (.type m) = some b) (h : Q (.bl b) H) : rIsi K [x, .ty m] H Q := ⟨x, .ty m, _, _, b, rfl, .ty m, ty, e, h⟩
theorem z_isiII {i : Int} (h : Q (.bl true) H) : rIsi K [.int i, .ty "int"] H Q := z_isi (.base (.int i)) (kit_ty (by decide +kernel)) h
theorem z_isiIB {i : Int} (h : Q (.bl false) H) : rIsi K [.int i, .ty "bool"] H Q := z_isi (.base (.int i)) (kit_ty (by decide +kernel)) h
theorem z_isiIL {i : Int} (h : Q (.bl false) H) : rIsi K [.int i, .ty "list"] H Q := z_isi (.base (.int i)) (kit_ty (by decide +kernel)) h
theorem z_isiIS {i : Int} (h : Q (.bl false) H) : rIsi K [.int i, .ty "str"] H Q := z_isi (.base (.int i)) (kit_ty (by decide +kernel)) h
theorem z_isiBI {i : Bool} (h : Q (.bl true) H) : rIsi K [.bl i, .ty "int"] H Q := z_isi (.base (.bl i)) (kit_ty (by decide +kernel)) h
theorem z_isiBB {i : Bool} (h : Q (.bl true) H) : rIsi K [.bl i, .ty "bool"] H Q := z_isi (.base (.bl i)) (kit_ty (by decide +kernel)) h
theorem z_isiNI (h : Q (.bl false) H) : rIsi K [.non, .ty "int"] H Q := z_isi (.base .non) (kit_ty (by decide +kernel)) h
theorem z_isiNL (h : Q (.bl false) H) : rIsi K [.non, .ty "list"] H Q := z_isi (.base .non) (kit_ty (by decide +kernel)) h
theorem z_isiNS (h : Q (.bl false) H) : rIsi K [.non, .ty "str"] H Q := z_isi (.base .non) (kit_ty (by decide +kernel)) h
theorem z_isiSS {x : Str} (h : Q (.bl true) H) : rIsi K [.str x, .ty "str"] H Q := z_isi (.base (.str x)) (kit_ty (by decide +kernel)) h
theorem z_isiSI {x : Str} (h : Q (.bl false) H) : rIsi K [.str x, .ty "int"] H Q := z_isi (.base (.str x)) (kit_ty (by decide +kernel)) h
theorem z_isiSL {x : Str} (h : Q (.bl false) H) : rIsi K [.str x, .ty "list"] H Q := z_isi (.base (.str x)) (kit_ty (by decide +kernel)) h
theorem z_isiLL {a : Addr} {xs : List V} (e : H a = some (.lst xs)) (h : Q (.bl true) H) : rIsi K [.ref a, .ty "list"] H Q := z_isi (.base (.lst e)) (kit_ty (by decide +kernel)) h
theorem z_isiLI {a : Addr} {xs : List V} (e : H a = some (.lst xs)) (h : Q (.bl false) H) : rIsi K [.ref a, .ty "int"] H Q := z_isi (.base (.lst e)) (kit_ty (by decide +kernel)) h
theorem z_isiLS {a : Addr} {xs : List V} (e : H a = some (.lst xs)) (h : Q (.bl false) H) : rIsi K [.ref a, .ty "str"] H Q := z_isi (.base (.lst e)) (kit_ty (by decide +kernel)) h
theorem z_isiTT {a : Addr} {xs : List V} (e : H a = some (.tup xs)) (h : Q (.bl true) H) : rIsi K [.ref a, .ty "tuple"] H Q := z_isi (.base (.tup e)) (kit_ty (by decide +kernel)) h
theorem z_isiTL {a : Addr} {xs : List V} (e : H a = some (.tup xs)) (h : Q (.bl false) H) : rIsi K [.ref a, .ty "list"] H Q := z_isi (.base (.tup e)) (kit_ty (by decide +kernel)) h
theorem z_isiTI {a : Addr} {xs : List V} (e : H a = some (.tup xs)) (h : Q (.bl false) H) : rIsi K [.ref a, .ty "int"] H Q := z_isi (.base (.tup e)) (kit_ty (by decide +kernel)) h
/-- nothing was made -/
theorem z_gc0 (h : R H) : ∃ G, Gc H H G ∧ R G := ⟨H, gc_refl, h⟩
theorem z_gc {H' G : Hp} (g : Gc H H' G) (h : R G) : ∃ G, Gc H H' G ∧ R G := ⟨G, g, h⟩
/-- one thing was made, and is told -/
theorem z_gcN {p : Addr} {o : HO} (hp : H p = none) (f : flatO o = true) (h : R (upd H p o)) : ∃ G, Gc H (upd H p o) G ∧ R G := ⟨_, gc_up gc_refl (mu_none hp) (mu_none hp) f, h⟩
end
section
theorem and_nat (a b : Nat) : Builtin.bitAnd (a : Int) (b : Int) = ((a &&& b : Nat) : Int) := by rw [PyProof.Rows.bitAnd_pp (by omega) (by omega)] <;> rfl
theorem xor_nat (a b : Nat) : Builtin.bitXor (a : Int) (b : Int) = ((a ^^^ b : Nat) : Int) := by rw [Bits.bitXor_pp (by omega) (by omega)] <;> rfl
theorem or_nat (a b : Nat) : Builtin.bitOr (a : Int) (b : Int) = ((a ||| b : Nat) : Int) := by rw [Bits.bitOr_pp (by omega) (by omega)] <;> rfl
end
/-- a row of bytes -/
def Byt (ns : List Int) : Prop := ∀ n ∈ ns, 0 ≤ n ∧ n < 256

section
variable {K : PySem.W.Frag} {σ : St} {H : Hp} {Q : VK} {te : TE} {ws : List Nat} {a : Addr} {j : Nat}
/-- whole numbers of which is told what holds of each -/
theorem c_rangeP {lo : Int} {n : Nat} (Pr : Nat → Int → Prop) (hz : n ≤ sizeLine) (hw : ∀ x, wipe ((wipe σ ws).set j (some x)) ws = wipe σ ws)
    (he : ∀ (i : Nat) H1 (R : VK), i < n → Same H H1 → (∀ y, Pr i y → R (.int y) H1) → te ((wipe σ ws).set j (some (.int (lo + i)))) H1 R)
    (k : ∀ D (ns : List Int), H D = none → ns.length = n → (∀ (i : Nat) y, ns[i]? = some y → Pr i y) → Q (.ref D) (upd H D (.lst (ns.map V.int)))) : LcZ (Itr lo n) (gName j) tYes te ws σ H Q := fun D hD =>
  lc_range (lo := lo) (n := n) (g := gName j) (tt := tYes) (te := te) (vs := ws) (σ := σ) (fun i H' => ∃ ns : List Int, ns.length = i ∧ (∀ (i : Nat) y, ns[i]? = some y → Pr i y) ∧ H' = upd H D (.lst (ns.map V.int))) ⟨[], rfl, fun i y e => by simp at e, rfl⟩ (fun i H' hi ⟨ns, hl, hp, e⟩ => by
    subst e
    refine ⟨hw _, ?_⟩
    unfold tYes
    refine iteT ?_
    refine he i _ _ hi (same_up (fun _ _ e => e) hD) fun y hy => ⟨_, upd_same, by rw [List.length_map]; omega, ns ++ [y], by simp [hl], fun m z e => ?_, by rw [upd_upd, List.map_append] <;> rfl⟩
    rw [List.getElem?_append] at e
    split at e
    · exact hp m z e
    · rename_i h
      have em : m - ns.length = 0 := by
        cases q : m - ns.length with
        | zero => rfl
        | succ d => rw [q] at e; simp at e
      rw [em] at e
      have ez : y = z := by simpa using e
      subst ez
      have : m = i := by omega
      subst this
      exact hy) fun H' ⟨ns, hl, hp, e⟩ => by subst e; exact k D ns hD hl hp
end
theorem byt_of {ns : List Int} (h : ∀ (i : Nat) y, ns[i]? = some y → 0 ≤ y ∧ y < 256) : Byt ns := fun n hn => by
  obtain ⟨i, hi, e⟩ := List.mem_iff_getElem.mp hn
  exact h i n (by rw [List.getElem?_eq_getElem hi, e])
/-! ## == of lists of whole numbers -/
section
variable {K : PySem.W.Frag} {H : Hp} {Q : VK}
theorem dpAll_ints {K : PySem.W.Frag} {H : Hp} : ∀ ns : List Int, DpAll K H (ns.map V.int) (ns.map PyData.int)
  | [] => .nil
  | n :: ns => .cons (.int n) (dpAll_ints ns)
theorem dp_ints {a : Addr} {ns : List Int} (h : SqL K H a (ns.map V.int)) : Dp K H (.ref a) (.list (ns.map PyData.int)) := .lst h (dpAll_ints ns)
theorem canLay_ints : ∀ ns : List Int, PyData.canLayAll0 (ns.map PyData.int) = true
  | [] => rfl
  | n :: ns => by
    show (PyData.canLay0 (.int n) && PyData.canLayAll0 (ns.map PyData.int)) = true
    rw [canLay_ints ns] <;> rfl
theorem depth_ints : ∀ ns : List Int, PyData.depthAll (ns.map PyData.int) = 0
  | [] => rfl
  | n :: ns => by
    show max (PyData.depth (.int n)) (PyData.depthAll (ns.map PyData.int)) = 0
    rw [depth_ints ns] <;> rfl
theorem shaped_ints (ns : List Int) : SeqAt.shaped (.list (ns.map PyData.int)) = true := by
  unfold SeqAt.shaped
  rw [show PyData.canLay0 (.list (ns.map PyData.int)) = true from canLay_ints ns]
  rw [show PyData.depth (.list (ns.map PyData.int)) = 1 from by show PyData.depthAll _ + 1 = 1; rw [depth_ints]] <;> rfl
theorem eqvAll_ints : ∀ ns ms : List Int, PyData.eqvAll (ns.map PyData.int) (ms.map PyData.int) = decide (ns = ms)
  | [], [] => rfl
  | [], m :: ms => rfl
  | n :: ns, [] => rfl
  | n :: ns, m :: ms => by
    show (n == m && PyData.eqvAll (ns.map PyData.int) (ms.map PyData.int)) = _
    rw [eqvAll_ints ns ms]
    by_cases h : n = m
    · subst h; simp
    · simp [h]
theorem eqv_ints (ns ms : List Int) : PyData.eqv (.list (ns.map PyData.int)) (.list (ms.map PyData.int)) = decide (ns = ms) := eqvAll_ints ns ms
theorem z_eqL {a b : Addr} {ns ms : List Int} (ha : SqL K H a (ns.map V.int)) (hb : SqL K H b (ms.map V.int)) (h : Q (.bl (decide (ns = ms))) H) : rEqZ K (.ref a) (.ref b) H Q :=
  .inr ⟨_, _, dp_ints ha, dp_ints hb, shaped_ints ns, shaped_ints ms, by rw [eqv_ints]; exact h⟩
theorem z_neL {a b : Addr} {ns ms : List Int} (ha : SqL K H a (ns.map V.int)) (hb : SqL K H b (ms.map V.int)) (h : Q (.bl (!decide (ns = ms))) H) : rNeZ K (.ref a) (.ref b) H Q :=
  .inr ⟨_, _, dp_ints ha, dp_ints hb, shaped_ints ns, shaped_ints ms, by rw [eqv_ints]; exact h⟩
end

/-! ## Heaps that grow -/
section
variable {K : PySem.W.Frag} {H H1 H' : Hp} {p q a : Addr} {o u : HO} {xs : List V}
def isTup : HO → Bool
  | .tup _ => true
  | _ => false
/-- what stood stands, no tuple is new -/
structure Sx (H H1 : Hp) : Prop where
  same : Same H H1
  nt : ∀ b xs, H1 b = some (.tup xs) → H b = some (.tup xs)
theorem sx_refl : Sx H H := ⟨fun _ _ e => e, fun _ _ e => e⟩
theorem sx_up (s : Sx H H1) (hq : H q = none) (ho : isTup o = false) : Sx H (upd H1 q o) := ⟨same_up s.same hq, fun b xs e => by
  by_cases z : b = q
  · subst z; rw [upd_same] at e; cases e; cases ho
  · rw [upd_ne z] at e; exact s.nt b xs e⟩
theorem sx_new (s : Sx H H1) (hq : H1 q = none) (ho : isTup o = false) : Sx H (upd H1 q o) := sx_up s (s.same.free hq) ho
theorem gc_sx (s : Sx H H1) : Gc H H1 H := gc_sameT s.same s.nt
theorem get_new (hq : H1 q = none) (h : H1 p = some o) : upd H1 q u p = some o := by rw [upd_ne (ne_of_none h hq)]; exact h
theorem ne_new (hq : upd H p o q = none) : q ≠ p := (upd_none.mp hq).1
theorem none_new (hq : upd H p o q = none) : H q = none := (upd_none.mp hq).2
theorem sq_new (hq : H1 q = none) (h : SqL K H1 a xs) : SqL K (upd H1 q u) a xs := sq_up hq h
end

section
variable {K : PySem.W.Frag} {H H0 H1 H' : Hp} {p q a : Addr} {o u : HO} {xs : List V}
def looseO : HO → Bool
  | .own _ => false
  | .tup _ => false
  | .frz _ _ => false
  | .tbl _ => false
  | _ => true
/-- H0 has more than H: things that may be dropped -/
structure Bs (H H0 : Hp) : Prop where
  same : Same H H0
  back : ∀ b u, H0 b = some u → looseO u = false → H b = some u
theorem bs_refl : Bs H H := ⟨fun _ _ e => e, fun _ _ e _ => e⟩
theorem bs_up (s : Bs H H1) (hq : H q = none) (ho : looseO o = true) : Bs H (upd H1 q o) := ⟨same_up s.same hq, fun b u e k => by
  by_cases z : b = q
  · subst z; rw [upd_same] at e; cases e; rw [ho] at k; cases k
  · rw [upd_ne z] at e; exact s.back b u e k⟩
theorem bs_new (s : Bs H H1) (hq : H1 q = none) (ho : looseO o = true) : Bs H (upd H1 q o) := bs_up s (s.same.free hq) ho
theorem kept_loose {o : HO} (h : kept o = true) : looseO o = false := by cases o <;> first | rfl | cases h
/-- back to a smaller heap -/
theorem gc_bs (b : Bs H H0) (s : Sx H H') : Gc H0 H' H := ⟨s.same, fun a o e => .inr ⟨b.same a o e, fun c h => b.back c _ h rfl⟩, fun c u e k => b.back c u e (kept_loose k), .inr s.nt⟩
theorem gc_bsD (b : Bs H H0) (s : Same H H') (nd : ND H) : Gc H0 H' H := ⟨s, fun a o e => .inr ⟨b.same a o e, fun c h => b.back c _ h rfl⟩, fun c u e k => b.back c u e (kept_loose k), .inl nd⟩
theorem gc_mut {p : Addr} {xs ys : List V} : Gc (upd H p (.lst xs)) (upd H p (.lst ys)) (upd H p (.lst ys)) := by
  have g : Gc (upd H p (.lst xs)) (upd (upd H p (.lst xs)) p (.lst ys)) (upd (upd H p (.lst xs)) p (.lst ys)) := gc_up gc_refl mu_atL mu_atL
  rw [upd_upd] at g
  exact g
theorem sq_same (s : Same H H1) (h : SqL K H a xs) : SqL K H1 a xs := s.seq h
end

theorem gc_one {H H0 H' : Hp} {p : Addr} {o : HO} (b : Bs H H0) (s : Sx H H') (e : H' p = some o) (f : flatO o = true := by rfl) : Gc H0 H' (upd H p o) := (gc_bs b s).put e f

theorem upd_comm {H : Hp} {p q : Addr} {o u : HO} (h : p ≠ q) : upd (upd H p o) q u = upd (upd H q u) p o := by
  funext b
  unfold upd
  by_cases e : b = q
  · subst e
    have : ¬ b = p := fun z => h z.symm
    simp [this]
  · simp [e]

section
variable {K : PySem.W.Frag} {σ : St} {H : Hp} {Q : VK} {R A B : Prop} {p a : Addr} {xs ys : List V} {y : V}
theorem z_ifR {α : Type} [DecidableEq α] {x : α} (h : A) : if decide (x = x) = true then A else B := by rw [if_pos (decide_eq_true rfl)]; exact h
theorem z_ifnR {α : Type} [DecidableEq α] {x : α} (h : B) : if (!decide (x = x)) = true then A else B := by rw [decide_eq_true (rfl : x = x)]; exact z_inT h
theorem z_ifY {c : Prop} [Decidable c] (hc : c) (h : A) : if decide c = true then A else B := by rw [if_pos (decide_eq_true hc)]; exact h
theorem z_ifN {c : Prop} [Decidable c] (hc : ¬ c) (h : B) : if decide c = true then A else B := by rw [if_neg (by rw [decide_eq_false hc]; exact Bool.false_ne_true)]; exact h
theorem z_ifnY {c : Prop} [Decidable c] (hc : c) (h : B) : if (!decide c) = true then A else B := by rw [decide_eq_true hc]; exact z_inT h
theorem z_ifnN {c : Prop} [Decidable c] (hc : ¬ c) (h : A) : if (!decide c) = true then A else B := by rw [decide_eq_false hc]; exact z_inF h
theorem z_list (hp : SqL K H p ys) (h : ∀ l, H l = none → Q (.ref l) (upd H l (.lst ys))) : rListOf K [.ref p] H Q := ⟨p, ys, rfl, .inl hp, h⟩
theorem z_bm {T : String} {r : V → List V → Hp → VK → Prop} {to : TE} {t : TA} (h : to σ H fun x H1 => tyV K T x H1 ∧ t σ H1 fun xs H2 => r x xs H2 Q) : tBM K T r to t σ H Q := h
theorem z_bm0 {T : String} {r : V → List V → Hp → VK → Prop} {to : TE} (h : to σ H fun x H1 => tyV K T x H1 ∧ r x [] H1 Q) : tBM0 K T r to σ H Q := h
theorem z_tyL (hp : SqL K H p xs) (r : R) : tyV K "list" (.ref p) H ∧ R := ⟨.inl ⟨rfl, _, hp⟩, r⟩
theorem z_app (hp : H p = some (.lst xs)) (hz : xs.length < sizeLine) (h : Q .non (upd H p (.lst (xs ++ [y])))) : rAppend (.ref p) [y] H Q := ⟨p, xs, y, rfl, rfl, hp, hz, h⟩
theorem cut_to (xs : List V) {i : Int} (h : 0 ≤ i) : cutV xs none (some i) = xs.take i.toNat := by
  unfold cutV
  have e1 : HT.sIx xs.length 0 none = 0 := rfl
  have e2 : HT.sIx xs.length xs.length (some i) = min i.toNat xs.length := if_neg (by omega)
  rw [e1, e2, List.drop_zero, Nat.sub_zero]
  by_cases l : i.toNat ≤ xs.length
  · rw [Nat.min_eq_left l]
  · rw [Nat.min_eq_right (by omega), List.take_of_length_le (Nat.le_refl _), List.take_of_length_le (by omega)]
theorem cut_from (xs : List V) {i : Int} (h : 0 ≤ i) : cutV xs (some i) none = xs.drop i.toNat := by
  unfold cutV
  have e1 : HT.sIx xs.length xs.length none = xs.length := rfl
  have e2 : HT.sIx xs.length 0 (some i) = min i.toNat xs.length := if_neg (by omega)
  rw [e1, e2]
  by_cases l : i.toNat ≤ xs.length
  · rw [Nat.min_eq_left l, List.take_of_length_le (by rw [List.length_drop]; exact Nat.le_refl _)]
  · rw [Nat.min_eq_right (by omega), Nat.sub_self, List.take_zero, List.drop_eq_nil_of_le (by omega)]
theorem cut_part (xs : List V) {i j : Int} (h : 0 ≤ i) (h' : 0 ≤ j) : cutV xs (some i) (some j) = (xs.drop i.toNat).take (j.toNat - i.toNat) := by
  unfold cutV
  have e1 : HT.sIx xs.length xs.length (some j) = min j.toNat xs.length := if_neg (by omega)
  have e2 : HT.sIx xs.length 0 (some i) = min i.toNat xs.length := if_neg (by omega)
  rw [e1, e2]
  by_cases l : i.toNat ≤ xs.length
  · rw [Nat.min_eq_left l]
    by_cases l2 : j.toNat ≤ xs.length
    · rw [Nat.min_eq_left l2]
    · rw [Nat.min_eq_right (by omega), List.take_of_length_le (by rw [List.length_drop]; exact Nat.le_refl _), List.take_of_length_le (by rw [List.length_drop]; omega)]
  · rw [Nat.min_eq_right (a := i.toNat) (by omega), List.drop_eq_nil_of_le (Nat.le_refl _), List.drop_eq_nil_of_le (by omega), List.take_nil, List.take_nil]
theorem z_slTo {i : Int} (h0 : 0 ≤ i) (hp : SqL K H a xs) (h : ∀ p, H p = none → Q (.ref p) (upd H p (.lst (xs.take i.toNat)))) : rSlZ K (.ref a) none (some i) H Q := z_slL hp fun p hp => by rw [cut_to _ h0]; exact h p hp
theorem z_slFrom {i : Int} (h0 : 0 ≤ i) (hp : SqL K H a xs) (h : ∀ p, H p = none → Q (.ref p) (upd H p (.lst (xs.drop i.toNat)))) : rSlZ K (.ref a) (some i) none H Q := z_slL hp fun p hp => by rw [cut_from _ h0]; exact h p hp
theorem z_slPart {i j : Int} (h0 : 0 ≤ i) (h1 : 0 ≤ j) (hp : SqL K H a xs) (h : ∀ p, H p = none → Q (.ref p) (upd H p (.lst ((xs.drop i.toNat).take (j.toNat - i.toNat))))) : rSlZ K (.ref a) (some i) (some j) H Q := z_slL hp fun p hp => by rw [cut_part _ h0 h1]; exact h p hp
end

section
variable {K : PySem.W.Frag} {σ σ' : St} {H : Hp} {Q : VK} {a : Addr} {ns : List Int} {t u : TS} {D : Ends} {i : Nat} {x : Option V}
theorem z_slToI {i : Int} (h0 : 0 ≤ i) (hp : SqL K H a (ns.map V.int)) (h : ∀ p, H p = none → Q (.ref p) (upd H p (.lst ((ns.take i.toNat).map V.int)))) : rSlZ K (.ref a) none (some i) H Q := z_slTo h0 hp fun p hp => by rw [← List.map_take]; exact h p hp
theorem z_slFromI {i : Int} (h0 : 0 ≤ i) (hp : SqL K H a (ns.map V.int)) (h : ∀ p, H p = none → Q (.ref p) (upd H p (.lst ((ns.drop i.toNat).map V.int)))) : rSlZ K (.ref a) (some i) none H Q := z_slFrom h0 hp fun p hp => by rw [← List.map_drop]; exact h p hp
theorem z_slPartI {i j : Int} (h0 : 0 ≤ i) (h1 : 0 ≤ j) (hp : SqL K H a (ns.map V.int)) (h : ∀ p, H p = none → Q (.ref p) (upd H p (.lst (((ns.drop i.toNat).take (j.toNat - i.toNat)).map V.int)))) : rSlZ K (.ref a) (some i) (some j) H Q := z_slPart h0 h1 hp fun p hp => by rw [← List.map_drop, ← List.map_take]; exact h p hp
theorem z_catI {a c : Addr} {ns ms : List Int} (ha : SqL K H a (ns.map V.int)) (hc : SqL K H c (ms.map V.int)) (z : ns.length + ms.length ≤ sizeLine) (h : ∀ p, H p = none → Q (.ref p) (upd H p (.lst ((ns ++ ms).map V.int)))) : rAddZ K (.ref a) (.ref c) H Q :=
  z_cat ha hc (by rw [List.length_map, List.length_map]; exact z) fun p hp => by rw [← List.map_append]; exact h p hp
theorem z_seqS (e : σ.set i x = σ') (h : tSeq t u D σ' H) : tSeq t u D (σ.set i x) H := by rw [e]; exact h
theorem z_eqLN {a b : Addr} {xs ys : List V} {ns ms : List Int} (e1 : xs = ns.map V.int) (e2 : ys = ms.map V.int) (ha : SqL K H a xs) (hb : SqL K H b ys) (h : Q (.bl (decide (ns = ms))) H) : rEqZ K (.ref a) (.ref b) H Q := by subst e1 e2; exact z_eqL ha hb h
theorem z_neLN {a b : Addr} {xs ys : List V} {ns ms : List Int} (e1 : xs = ns.map V.int) (e2 : ys = ms.map V.int) (ha : SqL K H a xs) (hb : SqL K H b ys) (h : Q (.bl (!decide (ns = ms))) H) : rNeZ K (.ref a) (.ref b) H Q := by subst e1 e2; exact z_neL ha hb h
end

section
variable {K : PySem.W.Frag} {H : Hp} {Q : VK} {n : Nat}
theorem shl_pos : (0 : Int) < 1 * 2 ^ n := by rw [Int.one_mul]; exact Int.pow_pos (by decide)
def rMin2 : List V → Hp → VK → Prop := fun xs H Q => ∃ i j, xs = [.int i, .int j] ∧ Q (.int (if j < i then j else i)) H
def rMax2 : List V → Hp → VK → Prop := fun xs H Q => ∃ i j, xs = [.int i, .int j] ∧ Q (.int (if j > i then j else i)) H
theorem call_min2Z {X : Cx} (hc : X.calm = true) : CallR X (.builtin "min") rMin2 := call_min2 hc
theorem call_max2Z {X : Cx} (hc : X.calm = true) : CallR X (.builtin "max") rMax2 := call_max2 hc
theorem z_min2 {i j : Int} (h : Q (.int (min i j)) H) : rMin2 [.int i, .int j] H Q := ⟨i, j, rfl, by
  have e : (if j < i then j else i) = min i j := by
    by_cases l : j < i
    · rw [if_pos l]; omega
    · rw [if_neg l]; omega
  rw [e]; exact h⟩
theorem z_max2 {i j : Int} (h : Q (.int (max i j)) H) : rMax2 [.int i, .int j] H Q := ⟨i, j, rfl, by
  have e : (if j > i then j else i) = max i j := by
    by_cases l : j > i
    · rw [if_pos l]; omega
    · rw [if_neg l]; omega
  rw [e]; exact h⟩
end

section
variable {K : PySem.W.Frag} {H : Hp} {Q : VK} {a b : Bool}
theorem z_eqB (h : Q (.bl (decide (a = b))) H) : rEqZ K (.bl a) (.bl b) H Q := .inl ⟨rfl, by
  have e : decide (V.bl a = V.bl b) = decide (a = b) := by simp
  rw [e]; exact h⟩
theorem z_neB (h : Q (.bl (!decide (a = b))) H) : rNeZ K (.bl a) (.bl b) H Q := .inl ⟨rfl, by
  have e : decide (V.bl a = V.bl b) = decide (a = b) := by simp
  rw [e]; exact h⟩
end
end Z


-- side questions
local macro_rules | `(tactic| walk_at "sd") => `(tactic| first
  | assumption | omega | (show (_ : Nat) ≤ 16777216; simp; done) | decide | exact Or.inr ⟨by omega, by omega⟩ | exact Or.inl ⟨by omega, by omega⟩ | exact ⟨by omega, by omega⟩ | exact ⟨by omega, by omega, by omega⟩ | exact ⟨by omega, by omega, by decide⟩ | exact Z.shl_pos)
-- what stands at an address
local macro_rules | `(tactic| walk_at "lk") => `(tactic| first
  | assumption | exact L2.upd_same
  | (apply L2.SqL.of; walk_at "lk")
  | (apply Z.get_new; (focus (· assumption)); walk_at "lk")
  | (apply Z.sq_new; (focus (· assumption)); walk_at "lk"))
-- a heap that has only grown
local macro_rules | `(tactic| walk_at "sx") => `(tactic| first
  | exact Z.sx_refl | assumption
  | ((refine Z.sx_new ?_ ?_ rfl); (focus (· walk_at "sx")); assumption)
  | ((refine Z.sx_up ?_ ?_ rfl); (focus (· walk_at "sx")); assumption))
local macro_rules | `(tactic| walk_at "bs") => `(tactic| first
  | exact Z.bs_refl | assumption
  | ((refine Z.bs_new ?_ ?_ rfl); (focus (· walk_at "bs")); assumption)
  | ((refine Z.bs_up ?_ ?_ rfl); (focus (· walk_at "bs")); assumption))
-- back to a base heap with one thing more
local macro_rules | `(tactic| walk_at "g1") => `(tactic| (refine Z.z_gc (Z.gc_one (by walk_at "bs") (by walk_at "sx") (by walk_at "lk")) ?_))
local macro_rules | `(tactic| walk_at "g0") => `(tactic| (refine Z.z_gc (Z.gc_bs (by walk_at "bs") (by walk_at "sx")) ?_))
-- one step of a reading
local macro_rules | `(tactic| walk_at "z1") => `(tactic| first
  | ((with_reducible apply Z.z_seqS); (focus (· first | (dsimp only [List.set]; done) | (dsimp only [List.set]; exact rfl))))
  | with_reducible refine Z.z_seq ?_
  | with_reducible refine Z.z_asg ?_
  | ((with_reducible show L2.tVar _ _ _ _); refine Z.z_var rfl ?_)
  | with_reducible refine Z.z_c ?_
  | with_reducible refine Z.z_op ?_
  | with_reducible refine Z.z_addI ?_
  | with_reducible refine Z.z_I0 ?_
  | ((with_reducible refine Z.z_I ?_ ?_); (focus (· walk_at "sd")))
  | ((with_reducible refine Z.z_mulI ?_ ?_); (focus (· walk_at "sd")))
  | with_reducible refine Z.z_eqI ?_
  | with_reducible refine Z.z_neI ?_
  | with_reducible refine Z.z_bl ?_
  | with_reducible refine Z.z_tst ?_
  | with_reducible refine Z.z_ifS ?_
  | with_reducible refine Z.z_and ?_
  | with_reducible refine Z.z_or ?_
  | with_reducible refine Z.z_not ?_
  | with_reducible refine Z.z_andV ?_
  | with_reducible refine Z.z_orV ?_
  | with_reducible refine Z.z_notV ?_
  | with_reducible refine Z.z_iT ?_
  | with_reducible refine Z.z_iF ?_
  | with_reducible refine Z.z_inT ?_
  | with_reducible refine Z.z_inF ?_
  | with_reducible refine Z.z_truZ ?_
  | with_reducible refine Z.z_truB ?_
  | with_reducible refine Z.z_truI ?_
  | with_reducible refine Z.z_ret ?_
  | with_reducible refine Z.z_call ?_
  | with_reducible refine Z.z_cons ?_
  | with_reducible refine Z.z_nil ?_
  | with_reducible refine Z.z_cb ?_
  | with_reducible refine Z.z_next ?_
  | with_reducible refine Z.z_drop ?_
  | with_reducible refine Z.z_sgc ?_
  | with_reducible refine Z.z_tgc ?_
  | with_reducible refine Z.z_ugc ?_
  | with_reducible refine Z.z_tB ?_
  | with_reducible refine Z.z_ifE ?_
  | with_reducible refine Z.z_chain ?_
  | with_reducible refine Z.z_lst ?_
  | with_reducible refine Z.z_tup ?_
  | with_reducible refine Z.z_sl ?_
  | with_reducible refine Z.z_nopart ?_
  | with_reducible refine Z.z_part ?_
  | with_reducible refine Z.z_int ?_
  | with_reducible refine Z.z_un ?_
  | with_reducible refine Z.z_rU ?_
  | with_reducible refine Z.z_asgS ?_
  | with_reducible refine Z.z_asgT ?_
  | with_reducible refine Z.z_retN ?_
  | ((with_reducible show L2.tAug _ _ _ _ _ _); refine Z.z_aug rfl ?_)
  | with_reducible refine Z.z_ipI ?_
  | with_reducible refine Z.z_brk ?_
  | with_reducible refine Z.z_cont ?_
  | with_reducible refine Z.z_forR1 ?_
  | with_reducible refine Z.z_forR2 ?_
  | with_reducible refine Z.z_forL ?_
  | with_reducible refine Z.z_forT ?_
  | with_reducible refine Z.z_forE ?_
  | with_reducible refine Z.z_lcR1 ?_
  | with_reducible refine Z.z_lcR2 ?_
  | with_reducible refine Z.z_lcL ?_
  | with_reducible refine Z.z_lcS ?_
  | ((with_reducible refine Z.z_rn1 ?_ ?_ ?_); (focus (· walk_at "sd")); (focus (· walk_at "sd")))
  | ((with_reducible refine Z.z_rn2 ?_ ?_); (focus (· walk_at "sd")))
  | (with_reducible refine Z.z_gn ?_; dsimp only [List.set])
  | with_reducible refine Z.z_gc0 ?_
  | with_reducible refine Z.z_ifR ?_
  | with_reducible refine Z.z_ifnR ?_
  | with_reducible refine Z.z_bm ?_
  | with_reducible refine Z.z_eqB ?_
  | with_reducible refine Z.z_neB ?_
  | with_reducible refine Z.z_eqS ?_
  | with_reducible refine Z.z_neS ?_
  | with_reducible refine Z.z_min2 ?_
  | with_reducible refine Z.z_max2 ?_
  | with_reducible refine Z.z_bm0 ?_
  | ((with_reducible apply Z.z_tyL); (focus (· walk_at "lk")))
  | ((with_reducible apply Z.z_isiLL); (focus (· walk_at "lk")))
  | ((with_reducible apply Z.z_lenI); (focus (· walk_at "lk")))
  | ((with_reducible apply Z.z_ixI); (focus (· walk_at "lk")); (focus (· walk_at "sd")); (focus (· walk_at "sd")))
  | ((with_reducible apply Z.z_eqL); (focus (· walk_at "lk")); (focus (· walk_at "lk")))
  | ((with_reducible apply Z.z_neL); (focus (· walk_at "lk")); (focus (· walk_at "lk")))
  | with_reducible refine Z.z_isiII ?_
  | with_reducible refine Z.z_isiIB ?_
  | with_reducible refine Z.z_isiIL ?_
  | with_reducible refine Z.z_isiIS ?_
  | with_reducible refine Z.z_isiBI ?_
  | with_reducible refine Z.z_isiBB ?_
  | with_reducible refine Z.z_isiNI ?_
  | with_reducible refine Z.z_isiNL ?_
  | with_reducible refine Z.z_isiNS ?_
  | with_reducible refine Z.z_isiSS ?_
  | with_reducible refine Z.z_isiSI ?_
  | with_reducible refine Z.z_isiSL ?_)
local macro_rules | `(tactic| walk_at "z") => `(tactic| repeat (walk_at "z1"))
local macro_rules | `(tactic| walk_at "z0") => `(tactic| (dsimp only [Z.cx_K, L2.start, List.length_cons, List.length_nil, List.replicate, Nat.reduceSub, Nat.reduceAdd]; simp only [List.map_cons, List.map_nil, List.cons_append, List.nil_append]; walk_at "z"))

namespace K06
open PySem L2 Z
def top (i : Nat) : Stmt := PySem.Challenge.pw_tornshelf_k06_whole_bursts_are_told.main.body.getD i (.Pass ⟨0, 0, 0, 0⟩)
abbrev s_crc_on : Stmt := (top 4)
theorem sc_crc_on : FnScope ["begun", "row", "found", "byte", "k"] ["begun", "row"] (defScope s_crc_on) := ⟨rfl, rfl, rfl, by decide +kernel, rfl, by decide +kernel, by decide +kernel⟩
abbrev s_crc : Stmt := (top 5)
theorem sc_crc : FnScope ["row"] ["row"] (defScope s_crc) := ⟨rfl, rfl, rfl, by decide +kernel, rfl, by decide +kernel, by decide +kernel⟩
abbrev s_crc_row : Stmt := (top 6)
theorem sc_crc_row : FnScope ["row", "found"] ["row"] (defScope s_crc_row) := ⟨rfl, rfl, rfl, by decide +kernel, rfl, by decide +kernel, by decide +kernel⟩
abbrev s_l_cell_at : Stmt := (top 8)
theorem sc_l_cell_at : FnScope ["_law_script", "_law_k"] ["_law_script", "_law_k"] (defScope s_l_cell_at) := ⟨rfl, rfl, rfl, by decide +kernel, rfl, by decide +kernel, by decide +kernel⟩
abbrev s_l_mixed : Stmt := (top 9)
theorem sc_l_mixed : FnScope ["_law_cell", "_law_k", "_law_number"] ["_law_cell", "_law_k"] (defScope s_l_mixed) := ⟨rfl, rfl, rfl, by decide +kernel, rfl, by decide +kernel, by decide +kernel⟩
abbrev s_l_row : Stmt := (top 10)
theorem sc_l_row : FnScope ["_law_cell", "_law_k"] ["_law_cell"] (defScope s_l_row) := ⟨rfl, rfl, rfl, by decide +kernel, rfl, by decide +kernel, by decide +kernel⟩
abbrev s_l_burst : Stmt := (top 11)
theorem sc_l_burst : FnScope ["_law_cell", "_law_bits", "_law_wide", "_law_mask", "_law_at"] ["_law_cell", "_law_bits"] (defScope s_l_burst) := ⟨rfl, rfl, rfl, by decide +kernel, rfl, by decide +kernel, by decide +kernel⟩
abbrev s_l_turned : Stmt := (top 12)
theorem sc_l_turned : FnScope ["_law_row_here", "_law_burst_here", "_law_k"] ["_law_row_here", "_law_burst_here"] (defScope s_l_turned) := ⟨rfl, rfl, rfl, by decide +kernel, rfl, by decide +kernel, by decide +kernel⟩
abbrev s_law : Stmt := (top 13)
theorem sc_law : FnScope ["_law_script", "_law_row_here", "_law_bits", "_law_known", "_law_whole", "_law_cell", "_law_burst_here", "_law_turned_here", "_law_at", "_law_one", "_law_other", "_law_alike"] ["_law_script"] (defScope s_law) := ⟨rfl, rfl, rfl, by decide +kernel, rfl, by decide +kernel, by decide +kernel⟩
/-- what the top has written -/
structure Tx (K : PySem.W.Frag) (mg : Str → Option Value) where
  a_crc_on : Addr
  d_crc_on : FuncData
  F_crc_on : Fun K "crc_on" "crc_on" s_crc_on a_crc_on d_crc_on
  b_crc_on : Binds K d_crc_on ["begun", "row"] []
  g_crc_on : mg "crc_on" = some (.ref a_crc_on)
  a_crc : Addr
  d_crc : FuncData
  F_crc : Fun K "crc" "crc" s_crc a_crc d_crc
  b_crc : Binds K d_crc ["row"] []
  g_crc : mg "crc" = some (.ref a_crc)
  a_crc_row : Addr
  d_crc_row : FuncData
  F_crc_row : Fun K "crc_row" "crc_row" s_crc_row a_crc_row d_crc_row
  b_crc_row : Binds K d_crc_row ["row"] []
  g_crc_row : mg "crc_row" = some (.ref a_crc_row)
  a_l_cell_at : Addr
  d_l_cell_at : FuncData
  F_l_cell_at : Fun K "_law_cell_at" "_law_cell_at" s_l_cell_at a_l_cell_at d_l_cell_at
  b_l_cell_at : Binds K d_l_cell_at ["_law_script", "_law_k"] []
  g_l_cell_at : mg "_law_cell_at" = some (.ref a_l_cell_at)
  a_l_mixed : Addr
  d_l_mixed : FuncData
  F_l_mixed : Fun K "_law_mixed" "_law_mixed" s_l_mixed a_l_mixed d_l_mixed
  b_l_mixed : Binds K d_l_mixed ["_law_cell", "_law_k"] []
  g_l_mixed : mg "_law_mixed" = some (.ref a_l_mixed)
  a_l_row : Addr
  d_l_row : FuncData
  F_l_row : Fun K "_law_row" "_law_row" s_l_row a_l_row d_l_row
  b_l_row : Binds K d_l_row ["_law_cell"] []
  g_l_row : mg "_law_row" = some (.ref a_l_row)
  a_l_burst : Addr
  d_l_burst : FuncData
  F_l_burst : Fun K "_law_burst" "_law_burst" s_l_burst a_l_burst d_l_burst
  b_l_burst : Binds K d_l_burst ["_law_cell", "_law_bits"] []
  g_l_burst : mg "_law_burst" = some (.ref a_l_burst)
  a_l_turned : Addr
  d_l_turned : FuncData
  F_l_turned : Fun K "_law_turned" "_law_turned" s_l_turned a_l_turned d_l_turned
  b_l_turned : Binds K d_l_turned ["_law_row_here", "_law_burst_here"] []
  g_l_turned : mg "_law_turned" = some (.ref a_l_turned)
  a_law : Addr
  d_law : FuncData
  F_law : Fun K "law" "law" s_law a_law d_law
  b_law : Binds K d_law ["_law_script"] []
  g_law : mg "law" = some (.ref a_law)
  z_len : mg "len" = none
  z_min : mg "min" = none
  z_range : mg "range" = none
  u_BEGIN : Value
  m_BEGIN : mg "BEGIN" = some u_BEGIN
  r_BEGIN : RelV (.int 65535) u_BEGIN
  u_FEED : Value
  m_FEED : mg "FEED" = some u_FEED
  r_FEED : RelV (.int 4129) u_FEED
  u_TOP : Value
  m_TOP : mg "TOP" = some u_TOP
  r_TOP : RelV (.int 32768) u_TOP

/-- the law's own mixing: some number below 2 ** 31 -/
def spMixed : Sp := fun vs H Q _ => ∃ c k : Int, vs = [.int c, .int k] ∧ 0 ≤ k ∧ k ≤ 10000 ∧ ∀ n : Int, 0 ≤ n → n < 2147483648 → Q (.int n) H
theorem ok_l_mixed {P : Program} {w : World} {K : PySem.W.Frag} {mg : Str → Option Value} {base : Heap} (T : Tx K mg) : FnOk P w K mg base CX0 1 T.a_l_mixed T.d_l_mixed ["_law_cell", "_law_k"] spMixed := by
  refine T.F_l_mixed.ok sc_l_mixed (fun vs H Q E h => ?_) (fun cdv A outer s H vs Q E hr h => ?_)
  · obtain ⟨c, k, rfl, _⟩ := h; rfl
  · obtain ⟨c, k, rfl, h0, h1, q⟩ := h
    refine ⟨_, (pss_gc (pss_cons (ps_if (PW.pt (pw_and (pt_cmpR op_ge (pv 0) (pe_op op_shl pe_int pe_int) (nomark _)) (pw_and (pt_cmpR (op_eqZ (K := K) rfl hr.units) (pe_op op_mod (pv 0) pe_int) pe_int (nomark _)) (pw_and1 (pt_cmpR op_gt (pe_op op_shr (pv 0) (pe_op (op_addZ (K := K) rfl) pe_int (pe_op op_mulZ pe_int (pv 1)))) pe_int (nomark _)))))) (pss_one (ps_ret (pe_op op_mod (pe_op op_shr (pv 0) (pe_op (op_addZ (K := K) rfl) pe_int (pe_op op_mulZ pe_int (pv 1)))) pe_int))) pss_nil)
      (pss_cons (ps_set (i := 2) sc_l_mixed.nd rfl (by first | exact Or.inl rfl | exact Or.inr rfl) (pe_op op_mod (pe_op op_mulZ (pe_op (op_addZ (K := K) rfl) (pe_op (op_addZ (K := K) rfl) (pv 0) (pe_op op_mulZ pe_int (pv 1))) pe_int) pe_int) pe_int))
      (pss_cons (ps_set (i := 2) sc_l_mixed.nd rfl (by first | exact Or.inl rfl | exact Or.inr rfl) (pe_op op_mod (pe_op op_mulZ (pv 2) (pe_op (op_addZ (K := K) rfl) (pe_op op_fdiv (pv 2) pe_int) pe_int)) pe_int))
      (pss_one (ps_ret (pe_op op_mod (pe_op op_mulZ (pv 2) (pe_op (op_addZ (K := K) rfl) (pe_op (op_addZ (K := K) rfl) (pe_op op_fdiv (pv 2) pe_int) pe_int) (pv 1))) pe_int))))))), ?_⟩
    walk_at "z0"
    refine z_if (fun _ => ?_) (fun _ => ?_)
    · walk_at "z"
      refine z_if (fun _ => ?_) (fun _ => ?_)
      · walk_at "z"
        refine z_if (fun _ => ?_) (fun _ => ?_)
        · walk_at "z"
          exact q _ (by omega) (by omega)
        · walk_at "z"
          exact q _ (by omega) (by omega)
      · walk_at "z"
        exact q _ (by omega) (by omega)
    · walk_at "z"
      exact q _ (by omega) (by omega)
theorem call_mixed {H : Hp} {Q : VK} {E : XK} {c k : Int} (h0 : 0 ≤ k) (h1 : k ≤ 10000) (q : ∀ n : Int, 0 ≤ n → n < 2147483648 → Q (.int n) H) : spMixed [.int c, .int k] H Q E := ⟨c, k, rfl, h0, h1, q⟩


/-- a cell of the script: some number -/
def spCell (K : PySem.W.Frag) : Sp := fun vs H Q _ => ∃ (a : Addr) (ns : List Int) (k : Int), vs = [.ref a, .int k] ∧ SqL K H a (ns.map V.int) ∧ 0 ≤ k ∧ ∀ n : Int, Q (.int n) H
theorem ok_l_cell_at {P : Program} {w : World} {K : PySem.W.Frag} {mg : Str → Option Value} {base : Heap} (T : Tx K mg) : FnOk P w K mg base CX0 1 T.a_l_cell_at T.d_l_cell_at ["_law_script", "_law_k"] (spCell K) := by
  refine T.F_l_cell_at.ok sc_l_cell_at (fun vs H Q E h => ?_) (fun cdv A outer s H vs Q E hr h => ?_)
  · obtain ⟨a, ns, k, rfl, _⟩ := h; rfl
  · obtain ⟨a, ns, k, rfl, hS, h0, q⟩ := h
    refine ⟨_, (pss_gc (pss_cons (ps_if (pt_cmpR op_lt (pv 1) (pe_callB (call_lenZ (K := K) rfl) (by rfl) T.z_len PySem.boot_len (pa_cons (pv 0) pa_nil)) (nomark _)) (pss_one (ps_ret (pe_ix (ix_seqZ (K := K) rfl) (pv 0) (pv 1) (fun _ _ => rfl)))) pss_nil)
      (pss_one (ps_ret pe_int)))), ?_⟩
    walk_at "z0"
    refine z_if (fun _ => ?_) (fun _ => ?_)
    · walk_at "z"
      exact q _
    · walk_at "z"
      exact q _
theorem call_cell {K : PySem.W.Frag} {H : Hp} {Q : VK} {E : XK} {a : Addr} {ns : List Int} {k : Int} (hS : SqL K H a (ns.map V.int)) (h0 : 0 ≤ k) (q : ∀ n : Int, Q (.int n) H) : spCell K [.ref a, .int k] H Q E := ⟨a, ns, k, rfl, hS, h0, q⟩

/-! ### the sum, in plain Lean -/
def stp (f : Nat) : Nat := if f &&& 32768 = 0 then f * 2 else ((f ^^^ 32768) * 2) ^^^ 4129
def itr : Nat → Nat → Nat
  | 0, x => x
  | n + 1, x => stp (itr n x)
def byt8 (f : Nat) (b : Int) : Nat := itr 8 (f ^^^ (b.toNat * 256))
def crcN (f : Nat) (ns : List Int) : Nat := ns.foldl byt8 f
theorem bit_top (i : Nat) : (32768 : Nat).testBit i = decide (15 = i) := Nat.testBit_two_pow (n := 15) (m := i)
theorem top_zero (f : Nat) : f &&& 32768 = 0 ↔ f.testBit 15 = false := by
  constructor
  · intro h
    have e : (f &&& 32768).testBit 15 = (0 : Nat).testBit 15 := by rw [h]
    rw [Nat.testBit_and, bit_top] at e
    simpa using e
  · intro h
    refine Nat.eq_of_testBit_eq fun i => ?_
    rw [Nat.testBit_and, bit_top, Nat.zero_testBit]
    by_cases e : 15 = i
    · subst e; rw [h] <;> rfl
    · simp [e]
theorem bit_mul2 (x i : Nat) : (x * 2).testBit i = (decide (1 ≤ i) && x.testBit (i - 1)) := by
  have e : x * 2 = x <<< 1 := by rw [Nat.shiftLeft_eq]
  rw [e, Nat.testBit_shiftLeft]
theorem hi_false {f n i : Nat} (h : f < 2 ^ n) (hi : n ≤ i) : f.testBit i = false := Nat.testBit_lt_two_pow (Nat.lt_of_lt_of_le h (Nat.pow_le_pow_right (by decide) hi))
theorem stp_bit {f : Nat} (hf : f < 2 ^ 16) (i : Nat) : (stp f).testBit i = ((decide (1 ≤ i ∧ i < 16) && f.testBit (i - 1)) ^^ (f.testBit 15 && (4129 : Nat).testBit i)) := by
  unfold stp
  by_cases h : f &&& 32768 = 0
  · rw [if_pos h, bit_mul2]
    have ht := (top_zero f).mp h
    rw [ht]
    by_cases h16 : i < 16
    · simp [h16]
    · have : f.testBit (i - 1) = false := by
        by_cases e : i = 16
        · subst e; exact ht
        · exact hi_false hf (by omega)
      simp [this]
  · rw [if_neg h, Nat.testBit_xor, bit_mul2, Nat.testBit_xor, bit_top]
    have ht : f.testBit 15 = true := by
      cases q : f.testBit 15 with
      | true => rfl
      | false => exact absurd ((top_zero f).mpr q) h
    rw [ht]
    by_cases h1 : 1 ≤ i
    · by_cases h16 : i < 16
      · have : ¬ 15 = i - 1 := by omega
        simp [h1, h16, this]
      · by_cases e : i = 16
        · subst e; simp [ht]
        · have q : f.testBit (i - 1) = false := hi_false hf (by omega)
          have : ¬ 15 = i - 1 := by omega
          simp [h16, q, this]
    · simp [h1]
theorem lt_of_bits {x n : Nat} (h : ∀ i, n ≤ i → x.testBit i = false) : x < 2 ^ n := Nat.lt_pow_two_of_testBit x h
theorem feed_hi {i : Nat} (h : 16 ≤ i) : (4129 : Nat).testBit i = false := hi_false (n := 16) (by decide) h
theorem stp_lt {f : Nat} (hf : f < 2 ^ 16) : stp f < 2 ^ 16 := lt_of_bits fun i hi => by
  rw [stp_bit hf, feed_hi hi]
  have : ¬ i < 16 := by omega
  simp [this]
theorem itr_lt {f : Nat} (hf : f < 2 ^ 16) : ∀ n, itr n f < 2 ^ 16
  | 0 => hf
  | n + 1 => stp_lt (itr_lt hf n)
theorem xor_byte_lt {f : Nat} {b : Int} (hf : f < 2 ^ 16) (hb : 0 ≤ b ∧ b < 256) : f ^^^ (b.toNat * 256) < 2 ^ 16 := Nat.xor_lt_two_pow hf (by omega)
theorem byt8_lt {f : Nat} {b : Int} (hf : f < 2 ^ 16) (hb : 0 ≤ b ∧ b < 256) : byt8 f b < 2 ^ 16 := itr_lt (xor_byte_lt hf hb) 8
theorem crcN_lt : ∀ {ns : List Int} {f : Nat}, f < 2 ^ 16 → Z.Byt ns → crcN f ns < 2 ^ 16
  | [], _, hf, _ => hf
  | b :: ns, f, hf, hb => crcN_lt (ns := ns) (byt8_lt hf (hb b (List.mem_cons_self))) fun n h => hb n (List.mem_cons_of_mem _ h)
theorem crcN_app (f : Nat) (xs ys : List Int) : crcN f (xs ++ ys) = crcN (crcN f xs) ys := List.foldl_append
theorem take_more {α : Type} {l : List α} {i : Nat} {x : α} (h : l[i]? = some x) : l.take (i + 1) = l.take i ++ [x] := by rw [List.take_add_one, h] <;> rfl
theorem crcN_more {ns : List Int} {i : Nat} {b : Int} {f : Nat} (h : ns[i]? = some b) : crcN f (ns.take (i + 1)) = byt8 (crcN f (ns.take i)) b := by
  rw [take_more h, crcN_app] <;> rfl
theorem byt_take {ns : List Int} {i : Nat} (h : Z.Byt ns) : Z.Byt (ns.take i) := fun n hn => h n (List.mem_of_mem_take hn)
theorem byt_at {ns : List Int} {i : Nat} {b : Int} (h : Z.Byt ns) (e : ns[i]? = some b) : 0 ≤ b ∧ b < 256 := h b (List.mem_of_getElem? e)
theorem stp_int0 {x : Nat} (h : Builtin.bitAnd (x : Int) 32768 = 0) : (x : Int) * 2 ^ (1 : Int).toNat = ((stp x : Nat) : Int) := by
  have e : Builtin.bitAnd (x : Int) 32768 = ((x &&& 32768 : Nat) : Int) := Z.and_nat x 32768
  rw [e] at h
  have h' : x &&& 32768 = 0 := by omega
  unfold stp
  rw [if_pos h']
  simp
theorem stp_int1 {x : Nat} (h : ¬ Builtin.bitAnd (x : Int) 32768 = 0) : Builtin.bitXor (Builtin.bitXor (x : Int) 32768 * 2 ^ (1 : Int).toNat) 4129 = ((stp x : Nat) : Int) := by
  have e : Builtin.bitAnd (x : Int) 32768 = ((x &&& 32768 : Nat) : Int) := Z.and_nat x 32768
  rw [e] at h
  have h' : ¬ x &&& 32768 = 0 := by omega
  have e1 : Builtin.bitXor (x : Int) 32768 = ((x ^^^ 32768 : Nat) : Int) := Z.xor_nat x 32768
  have e2 : ((x ^^^ 32768 : Nat) : Int) * 2 ^ (1 : Int).toNat = (((x ^^^ 32768) * 2 : Nat) : Int) := by simp
  have e3 : Builtin.bitXor (((x ^^^ 32768) * 2 : Nat) : Int) 4129 = ((((x ^^^ 32768) * 2) ^^^ 4129 : Nat) : Int) := Z.xor_nat _ 4129
  unfold stp
  rw [if_neg h', e1, e2, e3]
theorem byte_int {f : Nat} {b : Int} (hb : 0 ≤ b ∧ b < 256) : Builtin.bitXor (f : Int) (b * 2 ^ (8 : Int).toNat) = ((f ^^^ (b.toNat * 256) : Nat) : Int) := by
  have e : b * 2 ^ (8 : Int).toNat = ((b.toNat * 256 : Nat) : Int) := by
    have : ((8 : Int).toNat) = 8 := rfl
    rw [this]
    omega
  rw [e]
  exact Z.xor_nat _ _

/-! ### the sum's defs -/
def spCrcOn (K : PySem.W.Frag) : Sp := fun vs H Q _ => ∃ (f : Nat) (a : Addr) (ns : List Int), vs = [.int (f : Int), .ref a] ∧ f < 2 ^ 16 ∧ SqL K H a (ns.map V.int) ∧ Byt ns ∧ Q (.int ((crcN f ns : Nat) : Int)) H
def spCrc (K : PySem.W.Frag) : Sp := fun vs H Q _ => ∃ (a : Addr) (ns : List Int), vs = [.ref a] ∧ SqL K H a (ns.map V.int) ∧ Byt ns ∧ Q (.int ((crcN 65535 ns : Nat) : Int)) H
def crcRow (ns : List Int) : List Int := [((crcN 65535 ns / 256 : Nat) : Int), ((crcN 65535 ns % 256 : Nat) : Int)]
def spCrcRow (K : PySem.W.Frag) : Sp := fun vs H Q _ => ∃ (a : Addr) (ns : List Int), vs = [.ref a] ∧ SqL K H a (ns.map V.int) ∧ Byt ns ∧ ∀ p, H p = none → Q (.ref p) (upd H p (.lst ((crcRow ns).map V.int)))
section
variable {P : Program} {w : World} {K : PySem.W.Frag} {mg : Str → Option Value} {base : Heap}
theorem ok_crc_on (T : Tx K mg) : FnOk P w K mg base CX0 1 T.a_crc_on T.d_crc_on ["begun", "row"] (spCrcOn K) := by
  refine T.F_crc_on.ok sc_crc_on (fun vs H Q E h => ?_) (fun cdv A outer s H vs Q E hr h => ?_)
  · obtain ⟨f, a, ns, rfl, _⟩ := h; rfl
  · obtain ⟨f, a, ns, rfl, hf, hS, hB, q⟩ := h
    refine ⟨_, (pss_gc (pss_cons (ps_set (i := 2) sc_crc_on.nd rfl (by first | exact Or.inl rfl | exact Or.inr rfl) (pv 0))
      (pss_cons (ps_forZ PassesOwn.never rfl (pi_listZ (K := K) rfl (pv 1)) (pg_name (i := 3) sc_crc_on.nd rfl (by first | exact Or.inl rfl | exact Or.inr rfl)) (pss_cons (ps_set (i := 2) sc_crc_on.nd rfl (by first | exact Or.inl rfl | exact Or.inr rfl) (pe_op op_xor (pv 2) (pe_op op_shl (pv 3) pe_int)))
      (pss_one (ps_forZ PassesOwn.never rfl (pi_range1 rfl T.z_range (pa_cons pe_int pa_nil)) (pg_name (i := 4) sc_crc_on.nd rfl (by first | exact Or.inl rfl | exact Or.inr rfl)) (pss_one (ps_if (pt_truthZ (K := K) rfl (pe_op op_and (pv 2) (pe_glob rfl T.m_TOP T.r_TOP)) (by intro _; rfl)) (pss_one (ps_set (i := 2) sc_crc_on.nd rfl (by first | exact Or.inl rfl | exact Or.inr rfl) (pe_op op_xor (pe_op op_shl (pe_op op_xor (pv 2) (pe_glob rfl T.m_TOP T.r_TOP)) pe_int) (pe_glob rfl T.m_FEED T.r_FEED)))) (pss_one (ps_set (i := 2) sc_crc_on.nd rfl (by first | exact Or.inl rfl | exact Or.inr rfl) (pe_op op_shl (pv 2) pe_int)))))))))
      (pss_one (ps_ret (pv 2)))))), ?_⟩
    walk_at "z0"
    refine ⟨_, rfl, ⟨_, hS⟩, f_ints (ns := ns) (fun i σ' H' => ∃ v1 v2, σ' = [some (.int (f : Int)), some (.ref a), some (.int ((crcN f (ns.take i) : Nat) : Int)), v1, v2] ∧ H' = H) ⟨none, none, rfl, rfl⟩ (fun _ _ _ _ ⟨_, _, _, e⟩ => e ▸ hS) ?_ ?_⟩
    · rintro i b σ' H' hi ⟨v1, v2, rfl, rfl⟩
      have hb := byt_at hB hi
      walk_at "z"
      rw [byte_int hb]
      have hx := xor_byte_lt (crcN_lt (ns := ns.take i) hf (byt_take hB)) hb
      rw [crcN_more hi]
      unfold byt8
      generalize crcN f (ns.take i) ^^^ b.toNat * 256 = x at hx
      refine f_range (fun k σ' H'' => ∃ v, σ' = [some (.int (f : Int)), some (.ref a), some (.int ((itr k x : Nat) : Int)), some (.int b), v] ∧ H'' = H') ⟨v2, rfl, rfl⟩ ?_ ?_
      · rintro k σ' H'' hk ⟨v, rfl, rfl⟩
        have hlt := itr_lt hx k
        have hx1 : Builtin.bitXor ((itr k x : Nat) : Int) 32768 = ((itr k x ^^^ 32768 : Nat) : Int) := Z.xor_nat _ 32768
        have hx2 : itr k x ^^^ 32768 < 2 ^ 16 := Nat.xor_lt_two_pow hlt (by decide)
        walk_at "z"
        refine z_ifn (fun h => ?_) (fun h => ?_)
        · walk_at "z"
          rw [stp_int1 h]
          exact ⟨_, rfl, rfl⟩
        · walk_at "z"
          rw [stp_int0 h]
          exact ⟨_, rfl, rfl⟩
      · rintro σ' H'' ⟨v, rfl, rfl⟩
        walk_at "z"
        exact ⟨_, _, rfl, rfl⟩
    · rintro σ' H' ⟨v1, v2, rfl, rfl⟩
      walk_at "z"
      rw [List.take_length]
      exact q

theorem call_crc_on {H : Hp} {Q : VK} {E : XK} {f : Nat} {a : Addr} {ns : List Int} (hf : f < 2 ^ 16) (hS : SqL K H a (ns.map V.int)) (hB : Byt ns) (q : Q (.int ((crcN f ns : Nat) : Int)) H) : spCrcOn K [.int (f : Int), .ref a] H Q E := ⟨f, a, ns, rfl, hf, hS, hB, q⟩
theorem call_crc {H : Hp} {Q : VK} {E : XK} {a : Addr} {ns : List Int} (hS : SqL K H a (ns.map V.int)) (hB : Byt ns) (q : Q (.int ((crcN 65535 ns : Nat) : Int)) H) : spCrc K [.ref a] H Q E := ⟨a, ns, rfl, hS, hB, q⟩
theorem call_crc_row {H : Hp} {Q : VK} {E : XK} {a : Addr} {ns : List Int} (hS : SqL K H a (ns.map V.int)) (hB : Byt ns) (q : ∀ p, H p = none → Q (.ref p) (upd H p (.lst ((crcRow ns).map V.int)))) : spCrcRow K [.ref a] H Q E := ⟨a, ns, rfl, hS, hB, q⟩
theorem ok_crc (T : Tx K mg) : FnOk P w K mg base CX0 2 T.a_crc T.d_crc ["row"] (spCrc K) := by
  refine T.F_crc.ok sc_crc (fun vs H Q E h => ?_) (fun cdv A outer s H vs Q E hr h => ?_)
  · obtain ⟨a, ns, rfl, _⟩ := h; rfl
  · obtain ⟨a, ns, rfl, hS, hB, q⟩ := h
    refine ⟨_, (pss_gc (pss_one (ps_ret (pe_callZ (ok_crc_on T) (hr.mono (by decide)) (by rfl) T.g_crc_on T.F_crc_on.kp T.b_crc_on pass0 (pa_cons (pe_glob rfl T.m_BEGIN T.r_BEGIN) (pa_cons (pv 0) pa_nil)))))), ?_⟩
    walk_at "z0"
    refine call_crc_on (f := 65535) (by decide) hS hB ?_
    walk_at "z"
    exact q
theorem crcRow_int {n : Nat} (h : n < 2 ^ 16) : (n : Int) / 2 ^ (8 : Int).toNat = ((n / 256 : Nat) : Int) ∧ Builtin.bitAnd (n : Int) 255 = ((n % 256 : Nat) : Int) := by
  constructor
  · have : ((8 : Int).toNat) = 8 := rfl
    rw [this]
    omega
  · have e : Builtin.bitAnd (n : Int) 255 = ((n &&& 255 : Nat) : Int) := Z.and_nat n 255
    rw [e]
    have := Nat.and_two_pow_sub_one_eq_mod n 8
    rw [show (2 ^ 8 - 1 : Nat) = 255 from rfl] at this
    rw [this]
theorem ok_crc_row (T : Tx K mg) : FnOk P w K mg base CX0 3 T.a_crc_row T.d_crc_row ["row"] (spCrcRow K) := by
  refine T.F_crc_row.ok sc_crc_row (fun vs H Q E h => ?_) (fun cdv A outer s H vs Q E hr h => ?_)
  · obtain ⟨a, ns, rfl, _⟩ := h; rfl
  · obtain ⟨a, ns, rfl, hS, hB, q⟩ := h
    refine ⟨_, (pss_gc (pss_cons (ps_set (i := 1) sc_crc_row.nd rfl (by first | exact Or.inl rfl | exact Or.inr rfl) (pe_callZ (ok_crc T) (hr.mono (by decide)) (by rfl) T.g_crc T.F_crc.kp T.b_crc pass0 (pa_cons (pv 0) pa_nil)))
      (pss_one (ps_ret (pe_lst (pa_cons (pe_op op_shr (pv 1) pe_int) (pa_cons (pe_op op_and (pv 1) pe_int) pa_nil))))))), ?_⟩
    walk_at "z0"
    refine call_crc hS hB ?_
    walk_at "z"
    obtain ⟨e1, e2⟩ := crcRow_int (crcN_lt (f := 65535) (by decide) hB)
    rw [e1, e2]
    refine ⟨by show 2 ≤ sizeLine; decide, fun p hp => ?_⟩
    exact z_gcN hp rfl (q p hp)
end

/-- the sum behind its row -/
theorem itr_small {x : Nat} : ∀ n, n ≤ 16 → x < 2 ^ (16 - n) → itr n x = x * 2 ^ n
  | 0, _, _ => by simp [itr]
  | n + 1, hn, hx => by
    have hx2 : x < 2 ^ (16 - n) := Nat.lt_of_lt_of_le hx (Nat.pow_le_pow_right (by decide) (by omega))
    have ih := itr_small (x := x) n (by omega) hx2
    show stp (itr n x) = _
    rw [ih]
    have hlt : x * 2 ^ n < 2 ^ 15 := by
      have e : 2 ^ 15 = 2 ^ (16 - (n + 1)) * 2 ^ n := by rw [← Nat.pow_add]; congr 1; omega
      rw [e]
      exact Nat.mul_lt_mul_of_pos_right hx (Nat.two_pow_pos n)
    unfold stp
    rw [if_pos ((top_zero _).mpr (Nat.testBit_lt_two_pow hlt)), Nat.pow_succ, Nat.mul_assoc]
theorem itr_zero : ∀ n, itr n 0 = 0
  | 0 => rfl
  | n + 1 => by show stp (itr n 0) = 0; rw [itr_zero n]; rfl
theorem clear_top {f : Nat} (h : f < 2 ^ 16) : f ^^^ (f / 256 * 256) = f % 256 := by
  refine Nat.eq_of_testBit_eq fun i => ?_
  rw [Nat.testBit_xor, show (256 : Nat) = 2 ^ 8 from rfl, Nat.testBit_mul_two_pow, Nat.testBit_div_two_pow, Nat.testBit_mod_two_pow]
  by_cases l : i < 8
  · have : ¬ 8 ≤ i := by omega
    simp [l, this]
  · have : 8 ≤ i := by omega
    simp [l, this]
theorem crc_zero {ns : List Int} (hB : Z.Byt ns) : crcN 65535 (ns ++ crcRow ns) = 0 := by
  rw [crcN_app]
  have hf := crcN_lt (f := 65535) (by decide) hB
  unfold crcRow
  generalize crcN 65535 ns = f at hf
  show byt8 (byt8 f ((f / 256 : Nat) : Int)) ((f % 256 : Nat) : Int) = 0
  unfold byt8
  rw [Int.toNat_natCast, Int.toNat_natCast, clear_top hf, itr_small 8 (by decide) (show f % 256 < 2 ^ (16 - 8) by omega), show f % 256 * 2 ^ 8 = f % 256 * 256 from rfl, Nat.xor_self, itr_zero]


/-! ### bursts, in plain Lean -/
theorem stp_xor {x y : Nat} (hx : x < 2 ^ 16) (hy : y < 2 ^ 16) : stp (x ^^^ y) = stp x ^^^ stp y := by
  refine Nat.eq_of_testBit_eq fun i => ?_
  rw [Nat.testBit_xor, stp_bit (Nat.xor_lt_two_pow hx hy), stp_bit hx, stp_bit hy, Nat.testBit_xor, Nat.testBit_xor]
  cases decide (1 ≤ i ∧ i < 16) <;> cases x.testBit (i - 1) <;> cases y.testBit (i - 1) <;> cases x.testBit 15 <;> cases y.testBit 15 <;> cases (4129 : Nat).testBit i <;> rfl
theorem stp_zero : stp 0 = 0 := rfl
theorem stp_ne {x : Nat} (hx : x < 2 ^ 16) (h : stp x = 0) : x = 0 := by
  have b : ∀ i, ((decide (1 ≤ i ∧ i < 16) && x.testBit (i - 1)) ^^ (x.testBit 15 && (4129 : Nat).testBit i)) = false := fun i => by
    rw [← stp_bit hx, h, Nat.zero_testBit]
  have t : x.testBit 15 = false := by
    have := b 0
    have e : (4129 : Nat).testBit 0 = true := by decide
    rw [e] at this
    simpa using this
  refine Nat.eq_of_testBit_eq fun i => ?_
  rw [Nat.zero_testBit]
  by_cases l : i < 15
  · have := b (i + 1)
    rw [t] at this
    have c : decide (1 ≤ i + 1 ∧ i + 1 < 16) = true := decide_eq_true (by omega)
    rw [c] at this
    simpa using this
  · by_cases e : i = 15
    · subst e; exact t
    · exact hi_false hx (by omega)
theorem itr_in : ∀ (n x : Nat), itr (n + 1) x = itr n (stp x)
  | 0, _ => rfl
  | n + 1, x => by show stp (itr (n + 1) x) = stp (itr n (stp x)); rw [itr_in n x]
theorem itr_xor {x y : Nat} (hx : x < 2 ^ 16) (hy : y < 2 ^ 16) : ∀ n, itr n (x ^^^ y) = itr n x ^^^ itr n y
  | 0 => rfl
  | n + 1 => by show stp (itr n (x ^^^ y)) = stp (itr n x) ^^^ stp (itr n y); rw [itr_xor hx hy n, stp_xor (itr_lt hx n) (itr_lt hy n)]
theorem itr_ne {x : Nat} (hx : x < 2 ^ 16) (h : x ≠ 0) : ∀ n, itr n x ≠ 0
  | 0 => h
  | n + 1 => fun e => itr_ne hx h n (stp_ne (itr_lt hx n) e)
def feed (f : Nat) (b : Bool) : Nat := stp (f ^^^ (if b then 32768 else 0))
def feedN (f : Nat) : Nat → Nat → Nat
  | 0, _ => f
  | k + 1, N => feedN (feed f (N.testBit k)) k N
theorem feed_lt {f : Nat} (hf : f < 2 ^ 16) (b : Bool) : feed f b < 2 ^ 16 := by
  unfold feed
  refine stp_lt (Nat.xor_lt_two_pow hf ?_)
  cases b <;> decide
theorem feedN_lt : ∀ (k : Nat) {f N : Nat}, f < 2 ^ 16 → feedN f k N < 2 ^ 16
  | 0, _, _, h => h
  | k + 1, _, _, h => feedN_lt k (feed_lt h _)
theorem feedN_low : ∀ (k : Nat) {f N M : Nat}, (∀ i, i < k → N.testBit i = M.testBit i) → feedN f k N = feedN f k M
  | 0, _, _, _, _ => rfl
  | k + 1, f, N, M, h => by
    show feedN (feed f (N.testBit k)) k N = feedN (feed f (M.testBit k)) k M
    rw [h k (by omega)]
    exact feedN_low k fun i hi => h i (by omega)
theorem feedN_split (j : Nat) : ∀ (k : Nat) {f N : Nat}, feedN f (k + j) N = feedN (feedN f k (N / 2 ^ j)) j N
  | 0, f, N => by rw [Nat.zero_add]; rfl
  | k + 1, f, N => by
    rw [show k + 1 + j = (k + j) + 1 by omega]
    show feedN (feed f (N.testBit (k + j))) (k + j) N = feedN (feedN (feed f ((N / 2 ^ j).testBit k)) k (N / 2 ^ j)) j N
    rw [feedN_split j k, Nat.testBit_div_two_pow, Nat.add_comm]
theorem feedN_xor : ∀ (k : Nat) {f g N M : Nat}, f < 2 ^ 16 → g < 2 ^ 16 → feedN (f ^^^ g) k (N ^^^ M) = feedN f k N ^^^ feedN g k M
  | 0, _, _, _, _, _, _ => rfl
  | k + 1, f, g, N, M, hf, hg => by
    show feedN (feed (f ^^^ g) ((N ^^^ M).testBit k)) k (N ^^^ M) = feedN (feed f (N.testBit k)) k N ^^^ feedN (feed g (M.testBit k)) k M
    have e : feed (f ^^^ g) ((N ^^^ M).testBit k) = feed f (N.testBit k) ^^^ feed g (M.testBit k) := by
      unfold feed
      rw [Nat.testBit_xor, ← stp_xor (Nat.xor_lt_two_pow hf (by cases N.testBit k <;> decide)) (Nat.xor_lt_two_pow hg (by cases M.testBit k <;> decide))]
      congr 1
      refine Nat.eq_of_testBit_eq fun i => ?_
      simp only [Nat.testBit_xor]
      cases N.testBit k <;> cases M.testBit k <;> cases f.testBit i <;> cases g.testBit i <;> cases h : (32768 : Nat).testBit i <;> simp [h]
    rw [e]
    exact feedN_xor k (feed_lt hf _) (feed_lt hg _)
theorem feedN_zero : ∀ (k : Nat) {f N : Nat}, (∀ i, i < k → N.testBit i = false) → feedN f k N = itr k f
  | 0, _, _, _ => rfl
  | k + 1, f, N, h => by
    show feedN (feed f (N.testBit k)) k N = _
    rw [h k (by omega), feedN_zero k fun i hi => h i (by omega), itr_in]
    unfold feed
    simp
theorem shift_top {N k : Nat} (hk : k + 1 ≤ 16) (hN : N < 2 ^ (k + 1)) : N * 2 ^ (16 - (k + 1)) = (if N.testBit k then 32768 else 0) ^^^ (N % 2 ^ k * 2 ^ (16 - (k + 1))) := by
  refine Nat.eq_of_testBit_eq fun i => ?_
  rw [Nat.testBit_xor, Nat.testBit_mul_two_pow, Nat.testBit_mul_two_pow, Nat.testBit_mod_two_pow]
  have ht : (if N.testBit k then 32768 else 0 : Nat).testBit i = (N.testBit k && decide (15 = i)) := by
    cases N.testBit k with
    | true => simp only [if_true]; rw [bit_top]; simp
    | false => simp
  rw [ht]
  obtain ⟨s, hs⟩ : ∃ s, 16 - (k + 1) = s := ⟨_, rfl⟩
  rw [hs]
  by_cases l : s ≤ i
  · by_cases e : i = 15
    · subst e
      have : 15 - s = k := by omega
      rw [this]
      simp [l]
    · have e2 : ¬ 15 = i := fun z => e z.symm
      by_cases l2 : i < 15
      · have : i - s < k := by omega
        simp [l, e2, this]
      · have : N.testBit (i - s) = false := hi_false hN (by omega)
        simp [l, e2, this]
  · have e2 : ¬ 15 = i := by omega
    simp [l, e2]
theorem feed_itr : ∀ (k : Nat) {f N : Nat}, k ≤ 16 → f < 2 ^ 16 → N < 2 ^ k → itr k (f ^^^ N * 2 ^ (16 - k)) = feedN f k N
  | 0, f, N, _, _, hN => by
    have : N = 0 := by rw [Nat.pow_zero] at hN; omega
    subst this
    simp [itr, feedN]
  | k + 1, f, N, hk, hf, hN => by
    have hm : N % 2 ^ k < 2 ^ k := Nat.mod_lt _ (Nat.two_pow_pos k)
    have hlt : N % 2 ^ k * 2 ^ (16 - (k + 1)) < 2 ^ 15 := by
      have e : 2 ^ 15 = 2 ^ k * 2 ^ (16 - (k + 1)) := by rw [← Nat.pow_add]; congr 1; omega
      rw [e]
      exact Nat.mul_lt_mul_of_pos_right hm (Nat.two_pow_pos _)
    have h16 : N % 2 ^ k * 2 ^ (16 - (k + 1)) < 2 ^ 16 := Nat.lt_of_lt_of_le hlt (by decide)
    have e2 : stp (N % 2 ^ k * 2 ^ (16 - (k + 1))) = N % 2 ^ k * 2 ^ (16 - k) := by
      unfold stp
      rw [if_pos ((top_zero _).mpr (Nat.testBit_lt_two_pow hlt)), Nat.mul_assoc, ← Nat.pow_succ]
      congr 2
      omega
    rw [shift_top hk hN, ← Nat.xor_assoc, itr_in, stp_xor (Nat.xor_lt_two_pow hf (by cases N.testBit k <;> decide)) h16, e2]
    show itr k (feed f (N.testBit k) ^^^ N % 2 ^ k * 2 ^ (16 - k)) = feedN (feed f (N.testBit k)) k N
    rw [feed_itr k (by omega) (feed_lt hf _) hm]
    exact feedN_low k fun i hi => by rw [Nat.testBit_mod_two_pow]; simp [hi]
theorem byt8_feed {f : Nat} {b : Int} (hf : f < 2 ^ 16) (hb : 0 ≤ b ∧ b < 256) : byt8 f b = feedN f 8 b.toNat := by
  unfold byt8
  exact feed_itr 8 (by decide) hf (show b.toNat < 2 ^ 8 by omega)
/-- the bytes of a number, the high ones first -/
def rowOf (n B : Nat) : List Int := (List.range n).map fun k => ((B / 2 ^ (8 * (n - 1 - k)) % 256 : Nat) : Int)
theorem rowOf_len (n B : Nat) : (rowOf n B).length = n := by simp [rowOf]
theorem rowOf_byt (n B : Nat) : Z.Byt (rowOf n B) := by
  intro x hx
  unfold rowOf at hx
  obtain ⟨k, _, rfl⟩ := List.mem_map.mp hx
  omega
theorem rowOf_succ (n B : Nat) : rowOf (n + 1) B = rowOf n (B / 256) ++ [((B % 256 : Nat) : Int)] := by
  unfold rowOf
  rw [List.range_succ, List.map_append]
  congr 1
  · refine List.map_congr_left fun k hk => ?_
    have hk' := List.mem_range.mp hk
    have e : 8 * (n + 1 - 1 - k) = 8 + 8 * (n - 1 - k) := by omega
    rw [e, Nat.pow_add, ← Nat.div_div_eq_div_mul]
  · simp
theorem crc_rowOf : ∀ (n B : Nat), crcN 0 (rowOf n B) = feedN 0 (8 * n) B
  | 0, _ => rfl
  | n + 1, B => by
    rw [rowOf_succ, crcN_app, crc_rowOf n]
    show byt8 (feedN 0 (8 * n) (B / 256)) ((B % 256 : Nat) : Int) = _
    rw [byt8_feed (feedN_lt _ (by decide)) (by omega), Int.toNat_natCast, show 8 * (n + 1) = 8 * n + 8 by omega, feedN_split 8 (8 * n)]
    exact feedN_low 8 fun i hi => by rw [show 256 = 2 ^ 8 from rfl, Nat.testBit_mod_two_pow]; simp [hi]
/-- no burst is lost -/
theorem burst_ne {n m a : Nat} (hm : 0 < m) (hm2 : m < 2 ^ 16) (h : m * 2 ^ a < 2 ^ (8 * n)) : feedN 0 (8 * n) (m * 2 ^ a) ≠ 0 := by
  have ha : a < 8 * n := by
    refine Nat.lt_of_not_le fun hc => ?_
    have h1 : 2 ^ (8 * n) ≤ 2 ^ a := Nat.pow_le_pow_right (by decide) hc
    have h2 : 2 ^ a ≤ m * 2 ^ a := Nat.le_mul_of_pos_left _ hm
    omega
  obtain ⟨k, hk⟩ : ∃ k, 8 * n = k + a := ⟨8 * n - a, by omega⟩
  rw [hk] at h ⊢
  have hmk : m < 2 ^ k := by
    rw [Nat.pow_add] at h
    exact Nat.lt_of_mul_lt_mul_right h
  rw [feedN_split a k, Nat.mul_div_cancel _ (Nat.two_pow_pos a), feedN_zero a fun i hi => by rw [Nat.testBit_mul_two_pow]; simp; omega]
  refine itr_ne (feedN_lt _ (by decide)) ?_ a
  by_cases l : k ≤ 16
  · rw [← feed_itr k l (by decide) hmk, Nat.zero_xor]
    have hlt : m * 2 ^ (16 - k) < 2 ^ 16 := by
      have e : 2 ^ 16 = 2 ^ k * 2 ^ (16 - k) := by rw [← Nat.pow_add]; congr 1; omega
      rw [e]
      exact Nat.mul_lt_mul_of_pos_right hmk (Nat.two_pow_pos _)
    refine itr_ne hlt ?_ k
    have := Nat.mul_pos hm (Nat.two_pow_pos (16 - k))
    omega
  · obtain ⟨j, hj⟩ : ∃ j, k = j + 16 := ⟨k - 16, by omega⟩
    rw [hj, feedN_split 16 j, Nat.div_eq_of_lt hm2, feedN_zero j fun i hi => Nat.zero_testBit i, itr_zero, ← feed_itr 16 (by decide) (by decide) hm2, Nat.zero_xor]
    refine itr_ne (by simpa using hm2) ?_ 16
    simp
    omega
/-- a row turned by a number -/
def turn (ns : List Int) (B : Nat) : List Int := (List.range ns.length).map fun k => (((ns.getD k 0).toNat ^^^ (B / 2 ^ (8 * (ns.length - 1 - k)) % 256) : Nat) : Int)
def zx (xs ys : List Int) : List Int := List.zipWith (fun a b => ((a.toNat ^^^ b.toNat : Nat) : Int)) xs ys
theorem turn_zx (ns : List Int) (B : Nat) : turn ns B = zx ns (rowOf ns.length B) := by
  unfold turn zx rowOf
  apply List.ext_getElem
  · simp
  · intro i h1 h2
    have hi : i < ns.length := by simpa using h1
    simp only [List.getElem_map, List.getElem_range, List.getElem_zipWith, Int.toNat_natCast]
    have e3 : ns.getD i 0 = ns[i] := by simp [List.getD, hi]
    rw [e3]
theorem turn_len (ns : List Int) (B : Nat) : (turn ns B).length = ns.length := by simp [turn]
theorem byt_xor {a b : Int} (ha : 0 ≤ a ∧ a < 256) (hb : 0 ≤ b ∧ b < 256) : a.toNat ^^^ b.toNat < 256 := Nat.xor_lt_two_pow (n := 8) (by omega) (by omega)
theorem zx_byt : ∀ {xs ys : List Int}, Z.Byt xs → Z.Byt ys → Z.Byt (zx xs ys)
  | [], _, _, _ => fun n h => by simp [zx] at h
  | _ :: _, [], _, _ => fun n h => by simp [zx] at h
  | x :: xs, y :: ys, hx, hy => fun n h => by
    have e : zx (x :: xs) (y :: ys) = ((x.toNat ^^^ y.toNat : Nat) : Int) :: zx xs ys := rfl
    rw [e] at h
    rcases List.mem_cons.mp h with rfl | h
    · have := byt_xor (hx x List.mem_cons_self) (hy y List.mem_cons_self)
      omega
    · exact zx_byt (fun n z => hx n (List.mem_cons_of_mem _ z)) (fun n z => hy n (List.mem_cons_of_mem _ z)) n h
theorem turn_byt {ns : List Int} (h : Z.Byt ns) (B : Nat) : Z.Byt (turn ns B) := by rw [turn_zx]; exact zx_byt h (rowOf_byt _ _)
theorem crc_zx : ∀ {xs ys : List Int} {f g : Nat}, xs.length = ys.length → f < 2 ^ 16 → g < 2 ^ 16 → Z.Byt xs → Z.Byt ys → crcN (f ^^^ g) (zx xs ys) = crcN f xs ^^^ crcN g ys
  | [], [], _, _, _, _, _, _, _ => rfl
  | x :: xs, y :: ys, f, g, hl, hf, hg, hx, hy => by
    have bx := hx x List.mem_cons_self
    have by' := hy y List.mem_cons_self
    show crcN (byt8 (f ^^^ g) ((x.toNat ^^^ y.toNat : Nat) : Int)) (zx xs ys) = crcN (byt8 f x) xs ^^^ crcN (byt8 g y) ys
    have e : byt8 (f ^^^ g) ((x.toNat ^^^ y.toNat : Nat) : Int) = byt8 f x ^^^ byt8 g y := by
      unfold byt8
      rw [Int.toNat_natCast, ← itr_xor (xor_byte_lt hf bx) (xor_byte_lt hg by')]
      congr 1
      refine Nat.eq_of_testBit_eq fun i => ?_
      simp only [Nat.testBit_xor, show 256 = 2 ^ 8 from rfl, Nat.testBit_mul_two_pow]
      cases f.testBit i <;> cases g.testBit i <;> cases decide (8 ≤ i) <;> cases x.toNat.testBit (i - 8) <;> cases y.toNat.testBit (i - 8) <;> rfl
    rw [e]
    exact crc_zx (by simpa using hl) (byt8_lt hf bx) (byt8_lt hg by') (fun n z => hx n (List.mem_cons_of_mem _ z)) (fun n z => hy n (List.mem_cons_of_mem _ z))
theorem crc_turn {ns : List Int} {f : Nat} (hf : f < 2 ^ 16) (h : Z.Byt ns) (B : Nat) : crcN f (turn ns B) = crcN f ns ^^^ feedN 0 (8 * ns.length) B := by
  have e := crc_zx (xs := ns) (ys := rowOf ns.length B) (f := f) (g := 0) (by rw [rowOf_len]) hf (by decide) h (rowOf_byt _ _)
  rw [Nat.xor_zero] at e
  rw [turn_zx, e, crc_rowOf]
theorem xor_eq_self {a b : Nat} (h : a ^^^ b = a) : b = 0 := by
  have e : a ^^^ (a ^^^ b) = a ^^^ a := by rw [h]
  rw [← Nat.xor_assoc, Nat.xor_self, Nat.zero_xor] at e
  exact e
theorem turn_twice {ns : List Int} (h : Z.Byt ns) (B : Nat) : turn (turn ns B) B = ns := by
  apply List.ext_getElem
  · rw [turn_len, turn_len]
  · intro i h1 h2
    have e1 : (turn (turn ns B) B)[i] = ((((turn ns B).getD i 0).toNat ^^^ (B / 2 ^ (8 * ((turn ns B).length - 1 - i)) % 256) : Nat) : Int) := by simp [turn]
    have e2 : (turn ns B).getD i 0 = ((((ns.getD i 0).toNat ^^^ (B / 2 ^ (8 * (ns.length - 1 - i)) % 256)) : Nat) : Int) := by simp [turn, List.getD, h2]
    have e3 : ns.getD i 0 = ns[i] := by simp [List.getD, h2]
    rw [e1, e2, turn_len, Int.toNat_natCast, Nat.xor_assoc, Nat.xor_self, Nat.xor_zero, e3]
    have := h _ (List.getElem_mem h2)
    omega
theorem turn_zeros (n B : Nat) : turn (List.replicate n 0) B = rowOf n B := by
  unfold turn rowOf
  rw [List.length_replicate]
  refine List.map_congr_left fun k hk => ?_
  have hk' := List.mem_range.mp hk
  simp [List.getD, hk']
theorem same_at {ns : List Int} {a b at' : Nat} (h : Z.Byt ns) (ha : a < 2 ^ 16) (hb : b < 2 ^ 16) (ha2 : a * 2 ^ at' < 2 ^ (8 * ns.length)) (hb2 : b * 2 ^ at' < 2 ^ (8 * ns.length)) : crcN 65535 (turn ns (a * 2 ^ at')) = crcN 65535 (turn ns (b * 2 ^ at')) ↔ a = b := by
  rw [crc_turn (by decide) h, crc_turn (by decide) h]
  constructor
  · intro e
    refine Classical.byContradiction fun hne => ?_
    have e2 : feedN 0 (8 * ns.length) (a * 2 ^ at') = feedN 0 (8 * ns.length) (b * 2 ^ at') := by
      have := congrArg (crcN 65535 ns ^^^ ·) e
      simp only [← Nat.xor_assoc, Nat.xor_self, Nat.zero_xor] at this
      exact this
    have e3 : feedN 0 (8 * ns.length) ((a ^^^ b) * 2 ^ at') = 0 := by
      have ex : (a ^^^ b) * 2 ^ at' = a * 2 ^ at' ^^^ b * 2 ^ at' := by
        refine Nat.eq_of_testBit_eq fun i => ?_
        simp only [Nat.testBit_xor, Nat.testBit_mul_two_pow]
        cases decide (at' ≤ i) <;> simp
      have := feedN_xor (8 * ns.length) (f := 0) (g := 0) (N := a * 2 ^ at') (M := b * 2 ^ at') (by decide) (by decide)
      rw [Nat.xor_self] at this
      rw [ex, this, e2, Nat.xor_self]
    refine burst_ne (m := a ^^^ b) ?_ (Nat.xor_lt_two_pow ha hb) ?_ e3
    · refine Nat.pos_of_ne_zero fun z => hne ?_
      have := congrArg (· ^^^ b) z
      simp only [Nat.xor_assoc, Nat.xor_self, Nat.xor_zero, Nat.zero_xor] at this
      exact this
    · have ex : (a ^^^ b) * 2 ^ at' = a * 2 ^ at' ^^^ b * 2 ^ at' := by
        refine Nat.eq_of_testBit_eq fun i => ?_
        simp only [Nat.testBit_xor, Nat.testBit_mul_two_pow]
        cases decide (at' ≤ i) <;> simp
      rw [ex]
      exact Nat.xor_lt_two_pow ha2 hb2
  · intro e; rw [e]


def spRow : Sp := fun vs H Q _ => ∃ c : Int, vs = [.int c] ∧ ∀ (ns : List Int) p, Byt ns → 1 ≤ ns.length → ns.length ≤ 60 → H p = none → Q (.ref p) (upd H p (.lst (ns.map V.int)))
def spBurst : Sp := fun vs H Q _ => ∃ (c : Int) (b : Nat), vs = [.int c, .int (b : Int)] ∧ 1 ≤ b ∧ b ≤ 1000 ∧ ∀ m a : Nat, 0 < m → m < 2 ^ 16 → m * 2 ^ a < 2 ^ b → Q (.int ((m * 2 ^ a : Nat) : Int)) H
def spTurned (K : PySem.W.Frag) : Sp := fun vs H Q _ => ∃ (a : Addr) (ns : List Int) (B : Nat), vs = [.ref a, .int (B : Int)] ∧ SqL K H a (ns.map V.int) ∧ Byt ns ∧ ns.length ≤ 1000 ∧ ∀ p, H p = none → Q (.ref p) (upd H p (.lst ((turn ns B).map V.int)))
theorem or3_lt {w r : Nat} (hw : 1 ≤ w) (hr : r < 2 ^ w) : (1 ||| 2 ^ (w - 1)) ||| r < 2 ^ w :=
  Nat.or_lt_two_pow (Nat.or_lt_two_pow (Nat.one_lt_two_pow (by omega)) (Nat.pow_lt_pow_right (by decide) (by omega))) hr
theorem or3_pos {w r : Nat} : 0 < (1 ||| 2 ^ (w - 1)) ||| r := by
  refine Nat.pos_of_ne_zero fun h => ?_
  have e : ((1 ||| 2 ^ (w - 1)) ||| r).testBit 0 = false := by rw [h]; rfl
  rw [Nat.testBit_or, Nat.testBit_or] at e
  simp at e
theorem turn_el {ns : List Int} {B k : Nat} (hB : Byt ns) (hk : k < ns.length) : Builtin.bitXor (ns.getD k 0) (Builtin.bitAnd ((B : Int) / 2 ^ (8 * (ns.length - 1 - k))) 255) = (((ns.getD k 0).toNat ^^^ (B / 2 ^ (8 * (ns.length - 1 - k)) % 256) : Nat) : Int) := by
  have h0 : 0 ≤ ns.getD k 0 := by
    have : ns.getD k 0 = ns[k] := by simp [List.getD, hk]
    rw [this]
    exact (hB _ (List.getElem_mem hk)).1
  obtain ⟨n, hn⟩ := Int.eq_ofNat_of_zero_le h0
  rw [hn]
  have e1 : ((B : Int) / 2 ^ (8 * (ns.length - 1 - k))) = ((B / 2 ^ (8 * (ns.length - 1 - k)) : Nat) : Int) := by
    rw [Int.natCast_ediv]
    first | done | (congr 1; exact PyProof.Rows.two_pow_cast _) | simp
  have e2 : Builtin.bitAnd ((B / 2 ^ (8 * (ns.length - 1 - k)) : Nat) : Int) 255 = ((B / 2 ^ (8 * (ns.length - 1 - k)) &&& 255 : Nat) : Int) := Z.and_nat _ 255
  have e3 := Nat.and_two_pow_sub_one_eq_mod (B / 2 ^ (8 * (ns.length - 1 - k))) 8
  rw [show (2 ^ 8 - 1 : Nat) = 255 from rfl] at e3
  rw [e1, e2, e3]
  exact Z.xor_nat _ _
section
variable {P : Program} {w : World} {K : PySem.W.Frag} {mg : Str → Option Value} {base : Heap}
theorem ok_l_row (T : Tx K mg) : FnOk P w K mg base CX0 2 T.a_l_row T.d_l_row ["_law_cell"] spRow := by
  refine T.F_l_row.ok sc_l_row (fun vs H Q E h => ?_) (fun cdv A outer s H vs Q E hr h => ?_)
  · obtain ⟨c, rfl, _⟩ := h; rfl
  · obtain ⟨c, rfl, q⟩ := h
    refine ⟨_, (pss_gc (pss_one (ps_ret (pe_lc (own := [("_law_k", 1)]) rfl sc_l_row.nd (pi_range1 rfl T.z_range (pa_cons (pe_op (op_addZ (K := K) rfl) pe_int (pe_op op_mod (pe_callZ (ok_l_mixed T) (hr.mono (by decide)) (by rfl) T.g_l_mixed T.F_l_mixed.kp T.b_l_mixed pass0 (pa_cons (pv 0) (pa_cons pe_int pa_nil))) pe_int)) pa_nil)) (blkOk_by (N := ["_law_cell", "_law_k"]) (sc := defScope s_l_row) (by decide +kernel)) (fun _ _ _ _ _ => (pg_name (i := 1) sc_l_row.nd rfl (by first | exact Or.inl rfl | exact Or.inr rfl))) (fun _ _ _ _ _ => pts_nil) (fun _ _ _ _ _ => (pe_gc (pe_op op_mod (pe_callZ (ok_l_mixed T) (hr.mono (by decide)) (by rfl) T.g_l_mixed T.F_l_mixed.kp T.b_l_mixed pass0 (pa_cons (pv 0) (pa_cons (pe_op (op_addZ (K := K) rfl) pe_int (pv 1)) pa_nil))) pe_int))))))), ?_⟩
    walk_at "z0"
    refine call_mixed (by omega) (by omega) fun n1 a1 b1 => ?_
    walk_at "z"
    refine c_rangeP (fun _ y => 0 ≤ y ∧ y < 256) (Nat.le_trans (show _ ≤ 1000 by omega) (by decide)) (fun _ => rfl) ?_ ?_
    · intro i H1 R hi sm r
      dsimp only [wipe, List.set]
      walk_at "z"
      refine call_mixed (by omega) (by omega) fun n3 a3 b3 => ?_
      walk_at "z"
      exact r _ (by omega)
    · intro D ns hD hl hp
      exact z_gcN hD rfl (q ns D (byt_of hp) (by omega) (by omega) hD)
theorem ok_l_burst (T : Tx K mg) : FnOk P w K mg base CX0 2 T.a_l_burst T.d_l_burst ["_law_cell", "_law_bits"] spBurst := by
  refine T.F_l_burst.ok sc_l_burst (fun vs H Q E h => ?_) (fun cdv A outer s H vs Q E hr h => ?_)
  · obtain ⟨c, b, rfl, _⟩ := h; rfl
  · obtain ⟨c, b, rfl, h1, h2, q⟩ := h
    refine ⟨_, (pss_gc (pss_cons (ps_set (i := 2) sc_l_burst.nd rfl (by first | exact Or.inl rfl | exact Or.inr rfl) (pe_callB (call_min2Z rfl) (by rfl) T.z_min (by decide +kernel) (pa_cons (pv 1) (pa_cons (pe_op (op_addZ (K := K) rfl) pe_int (pe_op op_mod (pe_callZ (ok_l_mixed T) (hr.mono (by decide)) (by rfl) T.g_l_mixed T.F_l_mixed.kp T.b_l_mixed pass0 (pa_cons (pv 0) (pa_cons pe_int pa_nil))) pe_int)) pa_nil))))
      (pss_cons (ps_set (i := 3) sc_l_burst.nd rfl (by first | exact Or.inl rfl | exact Or.inr rfl) (pe_op op_or (pe_op op_or pe_int (pe_op op_shl pe_int (pe_op op_sub (pv 2) pe_int))) (pe_op op_mod (pe_callZ (ok_l_mixed T) (hr.mono (by decide)) (by rfl) T.g_l_mixed T.F_l_mixed.kp T.b_l_mixed pass0 (pa_cons (pv 0) (pa_cons pe_int pa_nil))) (pe_op op_shl pe_int (pv 2)))))
      (pss_cons (ps_set (i := 4) sc_l_burst.nd rfl (by first | exact Or.inl rfl | exact Or.inr rfl) (pe_op op_mod (pe_callZ (ok_l_mixed T) (hr.mono (by decide)) (by rfl) T.g_l_mixed T.F_l_mixed.kp T.b_l_mixed pass0 (pa_cons (pv 0) (pa_cons pe_int pa_nil))) (pe_op (op_addZ (K := K) rfl) (pe_op op_sub (pv 1) (pv 2)) pe_int)))
      (pss_one (ps_ret (pe_op op_shl (pv 3) (pv 4)))))))), ?_⟩
    walk_at "z0"
    refine call_mixed (by omega) (by omega) fun n1 a1 b1 => ?_
    walk_at "z"
    obtain ⟨wd, hw⟩ : ∃ wd : Nat, min (b : Int) (1 + n1 % 16) = (wd : Int) := ⟨(min (b : Int) (1 + n1 % 16)).toNat, by omega⟩
    have hw1 : 1 ≤ wd := by omega
    have hw2 : wd ≤ 16 := by omega
    have hw3 : wd ≤ b := by omega
    rw [hw]
    walk_at "z"
    refine call_mixed (by omega) (by omega) fun n2 a2 b2 => ?_
    walk_at "z"
    obtain ⟨r, hr2⟩ : ∃ r : Nat, n2 % (1 * 2 ^ ((wd : Int)).toNat) = (r : Int) := ⟨(n2 % (1 * 2 ^ ((wd : Int)).toNat)).toNat, by have := Int.emod_nonneg n2 (show (1 * 2 ^ ((wd : Int)).toNat : Int) ≠ 0 from Int.ne_of_gt shl_pos); omega⟩
    have hr3 : r < 2 ^ wd := by
      have h := Int.emod_lt_of_pos n2 (shl_pos (n := ((wd : Int)).toNat))
      rw [hr2, Int.one_mul, Int.toNat_natCast, PyProof.Rows.two_pow_cast] at h
      omega
    have em : Builtin.bitOr (Builtin.bitOr 1 (1 * 2 ^ ((wd : Int) - 1).toNat)) (n2 % (1 * 2 ^ ((wd : Int)).toNat)) = (((1 ||| 2 ^ (wd - 1)) ||| r : Nat) : Int) := by
      rw [hr2, show ((wd : Int) - 1).toNat = wd - 1 by omega, Int.one_mul, PyProof.Rows.two_pow_cast]
      have e1 : Builtin.bitOr 1 ((2 ^ (wd - 1) : Nat) : Int) = ((1 ||| 2 ^ (wd - 1) : Nat) : Int) := Z.or_nat 1 _
      rw [e1]
      exact Z.or_nat _ _
    rw [em]
    have hm := or3_lt hw1 hr3
    have hm16 : (1 ||| 2 ^ (wd - 1)) ||| r < 2 ^ 16 := Nat.lt_of_lt_of_le hm (Nat.pow_le_pow_right (by decide) hw2)
    have hp := or3_pos (w := wd) (r := r)
    generalize (1 ||| 2 ^ (wd - 1)) ||| r = m at hm hm16 hp
    refine call_mixed (by omega) (by omega) fun n3 a3 b3 => ?_
    walk_at "z"
    obtain ⟨a, ha⟩ : ∃ a : Nat, n3 % ((b : Int) - wd + 1) = (a : Int) := ⟨(n3 % ((b : Int) - wd + 1)).toNat, by have := Int.emod_nonneg n3 (show ((b : Int) - wd + 1) ≠ 0 by omega); omega⟩
    have ha2 : a + wd ≤ b := by
      have h := Int.emod_lt_of_pos n3 (show 0 < (b : Int) - wd + 1 by omega)
      omega
    rw [ha]
    walk_at "z"
    have ef : (m : Int) * 2 ^ ((a : Int)).toNat = ((m * 2 ^ a : Nat) : Int) := by
      rw [Int.toNat_natCast, PyProof.Rows.two_pow_cast, Int.natCast_mul]
    rw [ef]
    refine q m a hp hm16 ?_
    calc m * 2 ^ a < 2 ^ wd * 2 ^ a := Nat.mul_lt_mul_of_pos_right hm (Nat.two_pow_pos a)
      _ = 2 ^ (wd + a) := (Nat.pow_add 2 wd a).symm
      _ ≤ 2 ^ b := Nat.pow_le_pow_right (by decide) (by omega)
theorem ok_l_turned (T : Tx K mg) : FnOk P w K mg base CX0 1 T.a_l_turned T.d_l_turned ["_law_row_here", "_law_burst_here"] (spTurned K) := by
  refine T.F_l_turned.ok sc_l_turned (fun vs H Q E h => ?_) (fun cdv A outer s H vs Q E hr h => ?_)
  · obtain ⟨a, ns, B, rfl, _⟩ := h; rfl
  · obtain ⟨a, ns, B, rfl, hS, hB, hl, q⟩ := h
    refine ⟨_, (pss_gc (pss_one (ps_ret (pe_lc (own := [("_law_k", 2)]) rfl sc_l_turned.nd (pi_range1 rfl T.z_range (pa_cons (pe_callB (call_lenZ (K := K) rfl) (by rfl) T.z_len PySem.boot_len (pa_cons (pv 0) pa_nil)) pa_nil)) (blkOk_by (N := ["_law_row_here", "_law_burst_here", "_law_k"]) (sc := defScope s_l_turned) (by decide +kernel)) (fun _ _ _ _ _ => (pg_name (i := 2) sc_l_turned.nd rfl (by first | exact Or.inl rfl | exact Or.inr rfl))) (fun _ _ _ _ _ => pts_nil) (fun _ _ _ _ _ => (pe_gc (pe_op op_xor (pe_ix (ix_seqZ (K := K) rfl) (pv 0) (pv 2) (fun _ _ => rfl)) (pe_op op_and (pe_op op_shr (pv 1) (pe_op op_mulZ pe_int (pe_op op_sub (pe_op op_sub (pe_callB (call_lenZ (K := K) rfl) (by rfl) T.z_len PySem.boot_len (pa_cons (pv 0) pa_nil)) pe_int) (pv 2)))) pe_int)))))))), ?_⟩
    walk_at "z0"
    refine c_range (fun k => V.int (((ns.getD k 0).toNat ^^^ (B / 2 ^ (8 * (ns.length - 1 - k)) % 256) : Nat) : Int)) (Nat.le_trans (show _ ≤ 1000 by omega) (by decide)) (fun _ => rfl) ?_ ?_
    · intro i H1 R hi sm r
      have hS1 := sm.seq hS
      dsimp only [wipe, List.set]
      walk_at "z"
      rw [show (8 * ((ns.length : Int) - 1 - (0 + (i : Int)))).toNat = 8 * (ns.length - 1 - i) by omega, show (0 + (i : Int)).toNat = i by omega, turn_el hB (by omega)]
      exact r
    · intro D hD
      have := q D hD
      unfold turn at this
      rw [List.map_map] at this
      exact z_gcN hD rfl this
end


theorem call_burst {H : Hp} {Q : VK} {E : XK} {c : Int} {b : Nat} (h1 : 1 ≤ b) (h2 : b ≤ 1000) (q : ∀ m a : Nat, 0 < m → m < 2 ^ 16 → m * 2 ^ a < 2 ^ b → Q (.int ((m * 2 ^ a : Nat) : Int)) H) : spBurst [.int c, .int (b : Int)] H Q E := ⟨c, b, rfl, h1, h2, q⟩
theorem call_turned {K : PySem.W.Frag} {H : Hp} {Q : VK} {E : XK} {a : Addr} {ns : List Int} {B : Nat} (hS : SqL K H a (ns.map V.int)) (hB : Byt ns) (hl : ns.length ≤ 1000) (q : ∀ p, H p = none → Q (.ref p) (upd H p (.lst ((turn ns B).map V.int)))) : spTurned K [.ref a, .int (B : Int)] H Q E := ⟨a, ns, B, rfl, hS, hB, hl, q⟩
theorem byt_row {ns : List Int} (hB : Byt ns) : Byt (crcRow ns) := by
  have h := crcN_lt (f := 65535) (by decide) hB
  intro n hn
  unfold crcRow at hn
  simp at hn
  omega
theorem byt_app {xs ys : List Int} (h1 : Byt xs) (h2 : Byt ys) : Byt (xs ++ ys) := fun n hn => (List.mem_append.mp hn).elim (h1 n) (h2 n)
theorem rep_one (n : Nat) (x : Int) : (List.replicate n [V.int x]).flatten = (List.replicate n x).map V.int := by
  induction n with
  | zero => rfl
  | succ n ih => rw [List.replicate_succ, List.flatten_cons, ih, List.replicate_succ] <;> rfl
theorem byt_zeros (n : Nat) : Byt (List.replicate n 0) := fun y hy => by rw [List.eq_of_mem_replicate hy]; decide
def spLaw (K : PySem.W.Frag) : Sp := fun vs H Q _ => ∃ (a : Addr) (ns : List Int), vs = [.ref a] ∧ SqL K H a (ns.map V.int) ∧ ns.length ≤ 63 ∧ ND H ∧ ∀ H', Q (.bl true) H'
section
variable {P : Program} {w : World} {K : PySem.W.Frag} {mg : Str → Option Value} {base : Heap}
theorem ok_law (T : Tx K mg) : FnOk P w K mg base CX0 4 T.a_law T.d_law ["_law_script"] (spLaw K) := by
  refine T.F_law.ok sc_law (fun vs H Q E h => ?_) (fun cdv A outer s H vs Q E hr h => ?_)
  · obtain ⟨a, ns, rfl, _⟩ := h; rfl
  · obtain ⟨a, sc, rfl, hS, hl, nd, q⟩ := h
    refine ⟨_, (pss_gc (pss_cons (ps_set (i := 1) sc_law.nd rfl (by first | exact Or.inl rfl | exact Or.inr rfl) (pe_callZ (ok_l_row T) (hr.mono (by decide)) (by rfl) T.g_l_row T.F_l_row.kp T.b_l_row pass0 (pa_cons (pe_callZ (ok_l_cell_at T) (hr.mono (by decide)) (by rfl) T.g_l_cell_at T.F_l_cell_at.kp T.b_l_cell_at pass0 (pa_cons (pv 0) (pa_cons pe_int pa_nil))) pa_nil)))
      (pss_cons (ps_set (i := 2) sc_law.nd rfl (by first | exact Or.inl rfl | exact Or.inr rfl) (pe_op op_mulZ pe_int (pe_callB (call_lenZ (K := K) rfl) (by rfl) T.z_len PySem.boot_len (pa_cons (pv 1) pa_nil))))
      (pss_cons (ps_set (i := 3) sc_law.nd rfl (by first | exact Or.inl rfl | exact Or.inr rfl) (pe_callZ (ok_crc T) (hr.mono (by decide)) (by rfl) T.g_crc T.F_crc.kp T.b_crc pass0 (pa_cons (pv 1) pa_nil)))
      (pss_cons (ps_set (i := 4) sc_law.nd rfl (by first | exact Or.inl rfl | exact Or.inr rfl) (pe_op (op_addZ (K := K) rfl) (pv 1) (pe_callZ (ok_crc_row T) (hr.mono (by decide)) (by rfl) T.g_crc_row T.F_crc_row.kp T.b_crc_row pass0 (pa_cons (pv 1) pa_nil))))
      (pss_cons (ps_forZ PassesOwn.never rfl (pi_listZ (K := K) rfl (pe_op (op_addZ (K := K) rfl) (pe_lst (pa_cons pe_int (pa_cons pe_int pa_nil))) (pe_slice (sl_Z (K := K) rfl) (pv 0) (po_some pe_int) (po_some pe_int)))) (pg_name (i := 5) sc_law.nd rfl (by first | exact Or.inl rfl | exact Or.inr rfl)) (pss_cons (ps_set (i := 6) sc_law.nd rfl (by first | exact Or.inl rfl | exact Or.inr rfl) (pe_callZ (ok_l_burst T) (hr.mono (by decide)) (by rfl) T.g_l_burst T.F_l_burst.kp T.b_l_burst pass0 (pa_cons (pv 5) (pa_cons (pv 2) pa_nil))))
      (pss_cons (ps_set (i := 7) sc_law.nd rfl (by first | exact Or.inl rfl | exact Or.inr rfl) (pe_callZ (ok_l_turned T) (hr.mono (by decide)) (by rfl) T.g_l_turned T.F_l_turned.kp T.b_l_turned pass0 (pa_cons (pv 1) (pa_cons (pv 6) pa_nil))))
      (pss_cons (ps_if (PW.pt (pw_or (pt_cmpR (op_eqZ (K := K) rfl hr.units) (pv 7) (pv 1) (nomark _)) (pw_or (pt_cmpR (op_eqZ (K := K) rfl hr.units) (pe_callZ (ok_crc T) (hr.mono (by decide)) (by rfl) T.g_crc T.F_crc.kp T.b_crc pass0 (pa_cons (pv 7) pa_nil)) (pv 3) (nomark _)) (pw_or1 (pt_cmpR (op_neZ (K := K) rfl hr.units) (pe_callZ (ok_crc T) (hr.mono (by decide)) (by rfl) T.g_crc T.F_crc.kp T.b_crc pass0 (pa_cons (pe_callZ (ok_l_turned T) (hr.mono (by decide)) (by rfl) T.g_l_turned T.F_l_turned.kp T.b_l_turned pass0 (pa_cons (pv 7) (pa_cons (pv 6) pa_nil))) pa_nil)) (pv 3) (nomark _)))))) (pss_one (ps_ret pe_bl)) pss_nil)
      (pss_cons (ps_if (pt_gc (pt_cmpR (op_neZ (K := K) rfl hr.units) (pe_op op_xor (pe_callZ (ok_crc T) (hr.mono (by decide)) (by rfl) T.g_crc T.F_crc.kp T.b_crc pass0 (pa_cons (pv 7) pa_nil)) (pv 3)) (pe_callZ (ok_crc_on T) (hr.mono (by decide)) (by rfl) T.g_crc_on T.F_crc_on.kp T.b_crc_on pass0 (pa_cons pe_int (pa_cons (pe_callZ (ok_l_turned T) (hr.mono (by decide)) (by rfl) T.g_l_turned T.F_l_turned.kp T.b_l_turned pass0 (pa_cons (pe_op op_mulZ (pe_lst (pa_cons pe_int pa_nil)) (pe_callB (call_lenZ (K := K) rfl) (by rfl) T.z_len PySem.boot_len (pa_cons (pv 1) pa_nil))) (pa_cons (pv 6) pa_nil))) pa_nil))) (nomark _))) (pss_one (ps_ret pe_bl)) pss_nil)
      (pss_cons (ps_if (pt_cmpR (op_eqZ (K := K) rfl hr.units) (pe_callZ (ok_crc T) (hr.mono (by decide)) (by rfl) T.g_crc T.F_crc.kp T.b_crc pass0 (pa_cons (pe_callZ (ok_l_turned T) (hr.mono (by decide)) (by rfl) T.g_l_turned T.F_l_turned.kp T.b_l_turned pass0 (pa_cons (pv 4) (pa_cons (pe_callZ (ok_l_burst T) (hr.mono (by decide)) (by rfl) T.g_l_burst T.F_l_burst.kp T.b_l_burst pass0 (pa_cons (pe_callZ (ok_l_mixed T) (hr.mono (by decide)) (by rfl) T.g_l_mixed T.F_l_mixed.kp T.b_l_mixed pass0 (pa_cons (pv 5) (pa_cons pe_int pa_nil))) (pa_cons (pe_op (op_addZ (K := K) rfl) (pv 2) pe_int) pa_nil))) pa_nil))) pa_nil)) pe_int (nomark _)) (pss_one (ps_ret pe_bl)) pss_nil)
      (pss_cons (ps_set (i := 8) sc_law.nd rfl (by first | exact Or.inl rfl | exact Or.inr rfl) (pe_op op_mod (pe_callZ (ok_l_mixed T) (hr.mono (by decide)) (by rfl) T.g_l_mixed T.F_l_mixed.kp T.b_l_mixed pass0 (pa_cons (pv 5) (pa_cons pe_int pa_nil))) (pe_op (op_addZ (K := K) rfl) (pe_op op_sub (pv 2) (pe_callB (call_min2Z rfl) (by rfl) T.z_min (by decide +kernel) (pa_cons (pv 2) (pa_cons pe_int pa_nil)))) pe_int)))
      (pss_cons (ps_set (i := 9) sc_law.nd rfl (by first | exact Or.inl rfl | exact Or.inr rfl) (pe_op op_mod (pe_callZ (ok_l_mixed T) (hr.mono (by decide)) (by rfl) T.g_l_mixed T.F_l_mixed.kp T.b_l_mixed pass0 (pa_cons (pv 5) (pa_cons pe_int pa_nil))) (pe_op op_shl pe_int (pe_callB (call_min2Z rfl) (by rfl) T.z_min (by decide +kernel) (pa_cons (pv 2) (pa_cons pe_int pa_nil))))))
      (pss_cons (ps_set (i := 10) sc_law.nd rfl (by first | exact Or.inl rfl | exact Or.inr rfl) (pe_op op_mod (pe_callZ (ok_l_mixed T) (hr.mono (by decide)) (by rfl) T.g_l_mixed T.F_l_mixed.kp T.b_l_mixed pass0 (pa_cons (pv 5) (pa_cons pe_int pa_nil))) (pe_op op_shl pe_int (pe_callB (call_min2Z rfl) (by rfl) T.z_min (by decide +kernel) (pa_cons (pv 2) (pa_cons pe_int pa_nil))))))
      (pss_cons (ps_set (i := 11) sc_law.nd rfl (by first | exact Or.inl rfl | exact Or.inr rfl) (pe_cmpR (op_eqZ (K := K) rfl hr.units) (pe_callZ (ok_crc T) (hr.mono (by decide)) (by rfl) T.g_crc T.F_crc.kp T.b_crc pass0 (pa_cons (pe_callZ (ok_l_turned T) (hr.mono (by decide)) (by rfl) T.g_l_turned T.F_l_turned.kp T.b_l_turned pass0 (pa_cons (pv 1) (pa_cons (pe_op op_shl (pv 9) (pv 8)) pa_nil))) pa_nil)) (pe_callZ (ok_crc T) (hr.mono (by decide)) (by rfl) T.g_crc T.F_crc.kp T.b_crc pass0 (pa_cons (pe_callZ (ok_l_turned T) (hr.mono (by decide)) (by rfl) T.g_l_turned T.F_l_turned.kp T.b_l_turned pass0 (pa_cons (pv 1) (pa_cons (pe_op op_shl (pv 10) (pv 8)) pa_nil))) pa_nil)) (nomark _)))
      (pss_one (ps_if (pt_cmpR (op_neZ (K := K) rfl hr.units) (pv 11) (pe_cmpR (op_eqZ (K := K) rfl hr.units) (pv 9) (pv 10) (nomark _)) (nomark _)) (pss_one (ps_ret pe_bl)) pss_nil))))))))))))
      (pss_one (ps_ret pe_bl)))))))), ?_⟩
    walk_at "z0"
    refine call_cell hS (by decide) fun c0 => ?_
    walk_at "z"
    refine ⟨c0, rfl, fun ns r hB h1 h60 hr0 => ?_⟩
    walk_at "z"
    refine call_crc (SqL.of upd_same) hB ?_
    walk_at "z"
    refine call_crc_row (SqL.of upd_same) hB fun p1 hp1 => ?_
    walk_at "z"
    refine z_catI (SqL.of (get_new hp1 upd_same)) (SqL.of upd_same) (Nat.le_trans (show ns.length + 2 ≤ 1002 by omega) (by decide)) fun wp hwp => ?_
    walk_at "z"
    refine ⟨by show 2 ≤ sizeLine; decide, fun p2 hp2 => ?_⟩
    walk_at "z"
    refine z_slPartI (by decide) (by decide) (sq_up hp2 (sq_up hwp (sq_up hp1 (sq_up hr0 hS)))) fun p3 hp3 => ?_
    refine z_catI (ns := [0, 1]) (SqL.of (get_new hp3 upd_same)) (SqL.of upd_same) (Nat.le_trans (show 2 + ((sc.drop (1 : Int).toNat).take ((41 : Int).toNat - (1 : Int).toNat)).length ≤ 100 by rw [List.length_take]; omega) (by decide)) fun p4 hp4 => ?_
    walk_at "z"
    generalize hit : [0, 1] ++ (sc.drop (1 : Int).toNat).take ((41 : Int).toNat - (1 : Int).toNat) = items
    have np1 := none_new hp1
    have nwp := none_new (none_new hwp)
    have np2 := none_new (none_new (none_new hp2))
    have np3 := none_new (none_new (none_new (none_new hp3)))
    have np4 := none_new (none_new (none_new (none_new (none_new hp4))))
    have hbs : Bs H (upd (upd (upd H r (.lst (ns.map V.int))) p1 (.lst ((crcRow ns).map V.int))) wp (.lst ((ns ++ crcRow ns).map V.int))) := by walk_at "bs"
    have er := get_new (u := .lst (items.map V.int)) hp4 (get_new (u := .lst (((sc.drop (1 : Int).toNat).take ((41 : Int).toNat - (1 : Int).toNat)).map V.int)) hp3 (get_new (u := .lst [V.int 0, V.int 1]) hp2 (get_new (u := .lst ((ns ++ crcRow ns).map V.int)) hwp (get_new (u := .lst ((crcRow ns).map V.int)) hp1 (upd_same (H := H) (a := r) (o := .lst (ns.map V.int)))))))
    have ew := get_new (u := .lst (items.map V.int)) hp4 (get_new (u := .lst (((sc.drop (1 : Int).toNat).take ((41 : Int).toNat - (1 : Int).toNat)).map V.int)) hp3 (get_new (u := .lst [V.int 0, V.int 1]) hp2 (upd_same (a := wp) (o := .lst ((ns ++ crcRow ns).map V.int)))))
    have nr4 : r ≠ p4 := ne_of_none (get_new hp3 (get_new hp2 (get_new hwp (get_new hp1 upd_same)))) hp4
    have nw4 : wp ≠ p4 := ne_of_none (get_new hp3 (get_new hp2 upd_same)) hp4
    have nrw : r ≠ wp := ne_of_none (get_new hp1 upd_same) hwp
    refine ⟨_, rfl, ⟨_, SqL.of upd_same⟩, f_ints (ns := items) (fun i σ' H' => ∃ v5 v6 v7 v8 v9 v10 v11, σ' = [some (.ref a), some (.ref r), some (.int (8 * (ns.length : Int))), some (.int ((crcN 65535 ns : Nat) : Int)), some (.ref wp), v5, v6, v7, v8, v9, v10, v11] ∧ Sx H H' ∧ H' r = some (.lst (ns.map V.int)) ∧ H' wp = some (.lst ((ns ++ crcRow ns).map V.int)) ∧ H' p4 = some (.lst (items.map V.int))) ⟨_, _, _, _, _, _, _, rfl, by walk_at "sx", er, ew, upd_same⟩ ?_ ?_ ?_⟩
    · rintro i σ' H' _ ⟨_, _, _, _, _, _, _, _, _, _, _, e⟩
      exact SqL.of e
    · rintro i n σ' H' _ ⟨v5, v6, v7, v8, v9, v10, v11, rfl, sx, e1, e2, e3⟩
      clear er ew hp1 hwp hp2 hp3 hp4 hit
      rw [show (8 * (ns.length : Int)) = ((8 * ns.length : Nat) : Int) by omega]
      walk_at "z"
      refine call_burst (by omega) (by omega) fun m b hm hm2 hmb => ?_
      have hne := burst_ne hm hm2 hmb
      generalize m * 2 ^ b = B at hmb hne
      walk_at "z"
      refine call_turned (SqL.of e1) hB (by omega) fun t1 ht1 => ?_
      have hlt := crcN_lt (f := 65535) (by decide) hB
      have ct := crc_turn (f := 65535) (by decide) hB B
      have ne1 : ¬ crcN 65535 (turn ns B) = crcN 65535 ns := fun e => hne (xor_eq_self (ct.symm.trans e))
      have tB := turn_byt hB B
      have tl := turn_len ns B
      walk_at "z"
      refine z_ifN (fun e => ne1 (by rw [e])) ?_
      walk_at "z"
      refine call_crc (SqL.of upd_same) tB ?_
      walk_at "z"
      refine z_ifN (fun e => ne1 (by omega)) ?_
      walk_at "z"
      refine call_turned (SqL.of upd_same) tB (by omega) fun t2 ht2 => ?_
      rw [turn_twice hB]
      walk_at "z"
      refine call_crc (SqL.of upd_same) hB ?_
      walk_at "z"
      refine call_crc (SqL.of (get_new ht2 upd_same)) tB ?_
      walk_at "z"
      refine ⟨by show 1 ≤ sizeLine; decide, fun t3 ht3 => ?_⟩
      have s1 := get_new (u := .lst [V.int 0]) ht3 (get_new (u := .lst (ns.map V.int)) ht2 (get_new (u := .lst ((turn ns B).map V.int)) ht1 e1))
      walk_at "z"
      refine z_rep upd_same (by omega) (by omega) (by rw [List.length_singleton]; exact Nat.le_trans (show _ ≤ 1000 by omega) (by decide)) fun t4 ht4 => ?_
      rw [rep_one, Int.toNat_natCast]
      walk_at "z"
      refine call_turned (SqL.of upd_same) (byt_zeros _) (by rw [List.length_replicate]; omega) fun t5 ht5 => ?_
      rw [turn_zeros]
      walk_at "z"
      refine call_crc_on (f := 0) (by decide) (SqL.of upd_same) (rowOf_byt _ _) ?_
      rw [crc_rowOf]
      have ex : Builtin.bitXor ((crcN 65535 (turn ns B) : Nat) : Int) ((crcN 65535 ns : Nat) : Int) = ((feedN 0 (8 * ns.length) B : Nat) : Int) := by
        rw [Z.xor_nat, ct, Nat.xor_comm, ← Nat.xor_assoc, Nat.xor_self, Nat.zero_xor]
      rw [ex]
      have nt1 := sx.same.free ht1
      walk_at "z"
      refine z_gc (gc_bs (H := H') (by walk_at "bs") (by walk_at "sx")) ?_
      clear ht5 ht4 s1 ht3 ht2 ht1
      walk_at "z"
      refine call_mixed (by omega) (by omega) fun c4 a4 b4 => ?_
      walk_at "z"
      rw [show (((8 * ns.length : Nat) : Int) + 16) = ((8 * (ns ++ crcRow ns).length : Nat) : Int) by rw [List.length_append]; show _ = ((8 * (ns.length + 2) : Nat) : Int); omega]
      have wl : (ns ++ crcRow ns).length = ns.length + 2 := by rw [List.length_append]; rfl
      have wB := byt_app hB (byt_row hB)
      refine call_burst (by omega) (by omega) fun m2 b2 hm3 hm4 hmb2 => ?_
      have hne2 := burst_ne hm3 hm4 hmb2
      walk_at "z"
      refine call_turned (SqL.of e2) wB (by omega) fun u1 hu1 => ?_
      walk_at "z"
      refine call_crc (SqL.of upd_same) (turn_byt wB _) ?_
      rw [crc_turn (by decide) wB, crc_zero hB, Nat.zero_xor]
      walk_at "z"
      refine z_ifN (fun e => hne2 (by omega)) ?_
      walk_at "z"
      refine call_mixed (by omega) (by omega) fun c5 a5 b5 => ?_
      walk_at "z"
      obtain ⟨wd, hw⟩ : ∃ wd : Nat, min ((8 * ns.length : Nat) : Int) 16 = (wd : Int) := ⟨(min ((8 * ns.length : Nat) : Int) 16).toNat, by omega⟩
      have hw2 : wd ≤ 16 := by omega
      have hw3 : wd ≤ 8 * ns.length := by omega
      rw [hw]
      obtain ⟨at', hat⟩ : ∃ a : Nat, c5 % (((8 * ns.length : Nat) : Int) - wd + 1) = (a : Int) := ⟨(c5 % (((8 * ns.length : Nat) : Int) - wd + 1)).toNat, by have := Int.emod_nonneg c5 (show (((8 * ns.length : Nat) : Int) - wd + 1) ≠ 0 by omega); omega⟩
      have hat2 : at' + wd ≤ 8 * ns.length := by
        have h := Int.emod_lt_of_pos c5 (show 0 < ((8 * ns.length : Nat) : Int) - wd + 1 by omega)
        omega
      walk_at "z"
      rw [hat]
      refine call_mixed (by omega) (by omega) fun c6 a6 b6 => ?_
      walk_at "z"
      rw [hw]
      walk_at "z"
      refine call_mixed (by omega) (by omega) fun c7 a7 b7 => ?_
      walk_at "z"
      rw [hw]
      walk_at "z"
      have small : ∀ c : Int, ∃ x : Nat, c % (1 * 2 ^ ((wd : Int)).toNat) = (x : Int) ∧ x < 2 ^ wd := fun c => by
        refine ⟨(c % (1 * 2 ^ ((wd : Int)).toNat)).toNat, ?_, ?_⟩
        · have := Int.emod_nonneg c (show (1 * 2 ^ ((wd : Int)).toNat : Int) ≠ 0 from Int.ne_of_gt shl_pos)
          omega
        · have h := Int.emod_lt_of_pos c (shl_pos (n := ((wd : Int)).toNat))
          rw [Int.one_mul, Int.toNat_natCast, PyProof.Rows.two_pow_cast] at h ⊢
          have := Int.emod_nonneg c (show (((2 ^ wd : Nat) : Int)) ≠ 0 by have := Nat.two_pow_pos wd; omega)
          omega
      obtain ⟨x, hx, hx2⟩ := small c6
      obtain ⟨y, hy, hy2⟩ := small c7
      have h16 : 2 ^ wd ≤ 2 ^ 16 := Nat.pow_le_pow_right (by decide) hw2
      have hlim : ∀ z, z < 2 ^ wd → z * 2 ^ at' < 2 ^ (8 * ns.length) := fun z hz =>
        calc z * 2 ^ at' < 2 ^ wd * 2 ^ at' := Nat.mul_lt_mul_of_pos_right hz (Nat.two_pow_pos at')
          _ = 2 ^ (wd + at') := (Nat.pow_add 2 wd at').symm
          _ ≤ 2 ^ (8 * ns.length) := Nat.pow_le_pow_right (by decide) (by omega)
      have ecast : ∀ z : Nat, (z : Int) * 2 ^ ((at' : Int)).toNat = ((z * 2 ^ at' : Nat) : Int) := fun z => by
        rw [Int.toNat_natCast, PyProof.Rows.two_pow_cast, Int.natCast_mul]
      rw [hx, hy]
      walk_at "z"
      rw [ecast]
      refine call_turned (SqL.of (get_new hu1 e1)) hB (by omega) fun u2 hu2 => ?_
      walk_at "z"
      refine call_crc (SqL.of upd_same) (turn_byt hB _) ?_
      walk_at "z"
      rw [ecast]
      refine call_turned (SqL.of (get_new hu2 (get_new hu1 e1))) hB (by omega) fun u3 hu3 => ?_
      walk_at "z"
      refine call_crc (SqL.of upd_same) (turn_byt hB _) ?_
      walk_at "z"
      have sa := same_at hB (Nat.lt_of_lt_of_le hx2 h16) (Nat.lt_of_lt_of_le hy2 h16) (hlim x hx2) (hlim y hy2)
      refine z_ifnY ?_ ?_
      · apply decide_eq_decide.mpr
        constructor
        · intro e
          have := sa.mp (by omega)
          omega
        · intro e
          have e' : x = y := by omega
          rw [e']
      have nu1 := sx.same.free hu1
      walk_at "z"
      refine z_gc (((gc_bs (H := H) hbs (by walk_at "sx")).put (p := r) (o := .lst (ns.map V.int)) (get_new hu3 (get_new hu2 (get_new hu1 e1)))).put (p := wp) (o := .lst ((ns ++ crcRow ns).map V.int)) (get_new hu3 (get_new hu2 (get_new hu1 e2)))|>.put (p := p4) (o := .lst (items.map V.int)) (get_new hu3 (get_new hu2 (get_new hu1 e3)))) ?_
      refine ⟨_, _, _, _, _, _, _, rfl, by walk_at "sx", ?_, ?_, upd_same⟩
      · rw [upd_ne nr4, upd_ne nrw]; exact upd_same
      · rw [upd_ne nw4]; exact upd_same
    · rintro σ' H' ⟨v5, v6, v7, v8, v9, v10, v11, rfl, sx, e1, e2, e3⟩
      walk_at "z"
      refine z_gc (gc_sx sx) ?_
      exact q _
end
theorem all_mk {l : PySem.W.OpenLaw} {w : World} {K : PySem.W.Frag} {h : Heap} {mg : Str → Option Value} {fa f0 f1 f2 f3 f4 f5 f6 f7 f8 : Addr} (X : K.In h) (G : h.Ns mainGlobals mg) (hfa : mg "law" = some (.ref fa))
    {od0 an0 : Option Addr} {sl0 : Array (Option Value)} {oc0 kV0 dc0 pm0 cd0 ct0 : Value}
    {od1 an1 : Option Addr} {sl1 : Array (Option Value)} {oc1 kV1 dc1 pm1 cd1 ct1 : Value}
    {od2 an2 : Option Addr} {sl2 : Array (Option Value)} {oc2 kV2 dc2 pm2 cd2 ct2 : Value}
    {od3 an3 : Option Addr} {sl3 : Array (Option Value)} {oc3 kV3 dc3 pm3 cd3 ct3 : Value}
    {od4 an4 : Option Addr} {sl4 : Array (Option Value)} {oc4 kV4 dc4 pm4 cd4 ct4 : Value}
    {od5 an5 : Option Addr} {sl5 : Array (Option Value)} {oc5 kV5 dc5 pm5 cd5 ct5 : Value}
    {od6 an6 : Option Addr} {sl6 : Array (Option Value)} {oc6 kV6 dc6 pm6 cd6 ct6 : Value}
    {od7 an7 : Option Addr} {sl7 : Array (Option Value)} {oc7 kV7 dc7 pm7 cd7 ct7 : Value}
    {od8 an8 : Option Addr} {sl8 : Array (Option Value)} {oc8 kV8 dc8 pm8 cd8 ct8 : Value}
    {u_BEGIN : Value}
    {u_FEED : Value}
    {u_TOP : Value}
    (a0 : PySem.W.nsIn K mainGlobals "crc_on" = some (some (.ref f0)))
    (l0 : K.lookup f0 = some ⟨oc0, od0, .func (PySem.W.fnOf "crc_on" "crc_on" (defArgs s_crc_on) (defBody s_crc_on) (defScope s_crc_on) .none kV0 dc0 pm0 an0 cd0 ct0), sl0⟩)
    (c0 : PySem.W.codeIn K cd0 "crc_on" = true) (k0 : PySem.W.keepIn K (.ref f0) = true)
    (a1 : PySem.W.nsIn K mainGlobals "crc" = some (some (.ref f1)))
    (l1 : K.lookup f1 = some ⟨oc1, od1, .func (PySem.W.fnOf "crc" "crc" (defArgs s_crc) (defBody s_crc) (defScope s_crc) .none kV1 dc1 pm1 an1 cd1 ct1), sl1⟩)
    (c1 : PySem.W.codeIn K cd1 "crc" = true) (k1 : PySem.W.keepIn K (.ref f1) = true)
    (a2 : PySem.W.nsIn K mainGlobals "crc_row" = some (some (.ref f2)))
    (l2 : K.lookup f2 = some ⟨oc2, od2, .func (PySem.W.fnOf "crc_row" "crc_row" (defArgs s_crc_row) (defBody s_crc_row) (defScope s_crc_row) .none kV2 dc2 pm2 an2 cd2 ct2), sl2⟩)
    (c2 : PySem.W.codeIn K cd2 "crc_row" = true) (k2 : PySem.W.keepIn K (.ref f2) = true)
    (a3 : PySem.W.nsIn K mainGlobals "_law_cell_at" = some (some (.ref f3)))
    (l3 : K.lookup f3 = some ⟨oc3, od3, .func (PySem.W.fnOf "_law_cell_at" "_law_cell_at" (defArgs s_l_cell_at) (defBody s_l_cell_at) (defScope s_l_cell_at) .none kV3 dc3 pm3 an3 cd3 ct3), sl3⟩)
    (c3 : PySem.W.codeIn K cd3 "_law_cell_at" = true) (k3 : PySem.W.keepIn K (.ref f3) = true)
    (a4 : PySem.W.nsIn K mainGlobals "_law_mixed" = some (some (.ref f4)))
    (l4 : K.lookup f4 = some ⟨oc4, od4, .func (PySem.W.fnOf "_law_mixed" "_law_mixed" (defArgs s_l_mixed) (defBody s_l_mixed) (defScope s_l_mixed) .none kV4 dc4 pm4 an4 cd4 ct4), sl4⟩)
    (c4 : PySem.W.codeIn K cd4 "_law_mixed" = true) (k4 : PySem.W.keepIn K (.ref f4) = true)
    (a5 : PySem.W.nsIn K mainGlobals "_law_row" = some (some (.ref f5)))
    (l5 : K.lookup f5 = some ⟨oc5, od5, .func (PySem.W.fnOf "_law_row" "_law_row" (defArgs s_l_row) (defBody s_l_row) (defScope s_l_row) .none kV5 dc5 pm5 an5 cd5 ct5), sl5⟩)
    (c5 : PySem.W.codeIn K cd5 "_law_row" = true) (k5 : PySem.W.keepIn K (.ref f5) = true)
    (a6 : PySem.W.nsIn K mainGlobals "_law_burst" = some (some (.ref f6)))
    (l6 : K.lookup f6 = some ⟨oc6, od6, .func (PySem.W.fnOf "_law_burst" "_law_burst" (defArgs s_l_burst) (defBody s_l_burst) (defScope s_l_burst) .none kV6 dc6 pm6 an6 cd6 ct6), sl6⟩)
    (c6 : PySem.W.codeIn K cd6 "_law_burst" = true) (k6 : PySem.W.keepIn K (.ref f6) = true)
    (a7 : PySem.W.nsIn K mainGlobals "_law_turned" = some (some (.ref f7)))
    (l7 : K.lookup f7 = some ⟨oc7, od7, .func (PySem.W.fnOf "_law_turned" "_law_turned" (defArgs s_l_turned) (defBody s_l_turned) (defScope s_l_turned) .none kV7 dc7 pm7 an7 cd7 ct7), sl7⟩)
    (c7 : PySem.W.codeIn K cd7 "_law_turned" = true) (k7 : PySem.W.keepIn K (.ref f7) = true)
    (a8 : PySem.W.nsIn K mainGlobals "law" = some (some (.ref f8)))
    (l8 : K.lookup f8 = some ⟨oc8, od8, .func (PySem.W.fnOf "law" "law" (defArgs s_law) (defBody s_law) (defScope s_law) .none kV8 dc8 pm8 an8 cd8 ct8), sl8⟩)
    (c8 : PySem.W.codeIn K cd8 "law" = true) (k8 : PySem.W.keepIn K (.ref f8) = true)
    (z_len : PySem.W.nsIn K mainGlobals "len" = some none)
    (z_min : PySem.W.nsIn K mainGlobals "min" = some none)
    (z_range : PySem.W.nsIn K mainGlobals "range" = some none)
    (m_BEGIN : PySem.W.nsIn K mainGlobals "BEGIN" = some (some u_BEGIN)) (r_BEGIN : RelV (.int 65535) u_BEGIN)
    (m_FEED : PySem.W.nsIn K mainGlobals "FEED" = some (some u_FEED)) (r_FEED : RelV (.int 4129) u_FEED)
    (m_TOP : PySem.W.nsIn K mainGlobals "TOP" = some (some u_TOP)) (r_TOP : RelV (.int 32768) u_TOP) :
    ∃ fd : FuncData, (∀ (s : Shared) (v : Value), BindsTo s fd ⟨[v], []⟩ [("_law_script", v)]) ∧ ∀ base : Heap, K.In base → base.Ns mainGlobals mg → FnOk l.prog w K mg base CX0 4 fa fd ["_law_script"] (spLaw K) := by
  have e := hfa.symm.trans (PySem.W.mg_of X G a8)
  cases e
  have F0 := fun_mk (st := s_crc_on) l0 c0 k0
  have b0 := F0.binds (ps := ["begun", "row"]) fun _ _ _ _ _ _ us hl => match us, hl with | [_, _], _ => rfl
  have F1 := fun_mk (st := s_crc) l1 c1 k1
  have b1 := F1.binds (ps := ["row"]) fun _ _ _ _ _ _ us hl => match us, hl with | [_], _ => rfl
  have F2 := fun_mk (st := s_crc_row) l2 c2 k2
  have b2 := F2.binds (ps := ["row"]) fun _ _ _ _ _ _ us hl => match us, hl with | [_], _ => rfl
  have F3 := fun_mk (st := s_l_cell_at) l3 c3 k3
  have b3 := F3.binds (ps := ["_law_script", "_law_k"]) fun _ _ _ _ _ _ us hl => match us, hl with | [_, _], _ => rfl
  have F4 := fun_mk (st := s_l_mixed) l4 c4 k4
  have b4 := F4.binds (ps := ["_law_cell", "_law_k"]) fun _ _ _ _ _ _ us hl => match us, hl with | [_, _], _ => rfl
  have F5 := fun_mk (st := s_l_row) l5 c5 k5
  have b5 := F5.binds (ps := ["_law_cell"]) fun _ _ _ _ _ _ us hl => match us, hl with | [_], _ => rfl
  have F6 := fun_mk (st := s_l_burst) l6 c6 k6
  have b6 := F6.binds (ps := ["_law_cell", "_law_bits"]) fun _ _ _ _ _ _ us hl => match us, hl with | [_, _], _ => rfl
  have F7 := fun_mk (st := s_l_turned) l7 c7 k7
  have b7 := F7.binds (ps := ["_law_row_here", "_law_burst_here"]) fun _ _ _ _ _ _ us hl => match us, hl with | [_, _], _ => rfl
  have F8 := fun_mk (st := s_law) l8 c8 k8
  have b8 := F8.binds (ps := ["_law_script"]) fun _ _ _ _ _ _ us hl => match us, hl with | [_], _ => rfl
  exact ⟨_, fun s v => .of_eq rfl, fun base _ _ => ok_law (K := K) (mg := mg) { a_crc_on := f0, d_crc_on := _, F_crc_on := F0, b_crc_on := b0, g_crc_on := PySem.W.mg_of X G a0, a_crc := f1, d_crc := _, F_crc := F1, b_crc := b1, g_crc := PySem.W.mg_of X G a1, a_crc_row := f2, d_crc_row := _, F_crc_row := F2, b_crc_row := b2, g_crc_row := PySem.W.mg_of X G a2, a_l_cell_at := f3, d_l_cell_at := _, F_l_cell_at := F3, b_l_cell_at := b3, g_l_cell_at := PySem.W.mg_of X G a3, a_l_mixed := f4, d_l_mixed := _, F_l_mixed := F4, b_l_mixed := b4, g_l_mixed := PySem.W.mg_of X G a4, a_l_row := f5, d_l_row := _, F_l_row := F5, b_l_row := b5, g_l_row := PySem.W.mg_of X G a5, a_l_burst := f6, d_l_burst := _, F_l_burst := F6, b_l_burst := b6, g_l_burst := PySem.W.mg_of X G a6, a_l_turned := f7, d_l_turned := _, F_l_turned := F7, b_l_turned := b7, g_l_turned := PySem.W.mg_of X G a7, a_law := fa, d_law := _, F_law := F8, b_law := b8, g_law := PySem.W.mg_of X G a8, z_len := PySem.W.mg_none_of X G z_len, z_min := PySem.W.mg_none_of X G z_min, z_range := PySem.W.mg_none_of X G z_range, u_BEGIN := u_BEGIN, m_BEGIN := PySem.W.mg_of X G m_BEGIN, r_BEGIN := r_BEGIN, u_FEED := u_FEED, m_FEED := PySem.W.mg_of X G m_FEED, r_FEED := r_FEED, u_TOP := u_TOP, m_TOP := PySem.W.mg_of X G m_TOP, r_TOP := r_TOP }⟩
theorem walk {l : PySem.W.OpenLaw} {q : Program} {loose : List Str} {XP : (Str → Option Value) → Heap → Prop} {YP : World → Heap → Prop} {d : DefRec} {K : Params → PySem.W.Frag} (hn : l.most = some 63) (hdf : d.params.defaults = [])
    (hY : ∀ (w : World) (h : Heap), YP w h → (K w.params).In h)
    (F : ∀ (w : World) (mg : Str → Option Value) (fa : Addr) (h : Heap), (K w.params).In h → h.Ns mainGlobals mg → mg d.name = some (.ref fa) →
      ∃ fd : FuncData, (∀ (s : Shared) (u : Value), BindsTo s fd ⟨[u], []⟩ [("_law_script", u)]) ∧ ∀ base : Heap, (K w.params).In base → base.Ns mainGlobals mg → FnOk l.prog w (K w.params) mg base CX0 4 fa fd ["_law_script"] (spLaw (K w.params))) :
    PySem.W.WalkO q loose XP YP l.row.toRowW d [] (fun f vs => PySem.call f vs) :=
  L2.walk_of (n := 63) (k := 4) (x := "_law_script") (CX := fun _ => CX0) (sp := fun w => spLaw (K w.params)) hn (by decide) hdf ⟨rfl, by decide, by decide⟩ hY F (fun _ _ a ns hl hO hS => ⟨a, ns, rfl, hS, hl, Z.only_nd hO, fun _ => rfl⟩) fun _ _ _ _ _ z => z
end K06
open PySem PySem.W PyProof.Rows in
set_option maxRecDepth 100000 in
set_option maxHeartbeats 0 in
theorem PySem.Challenge.cw_tornshelf_k06_whole_bursts_are_told_holds : PySem.Challenge.rw_tornshelf_k06_whole_bursts_are_told.Holds := by
  w_on; o_law; k_head; (case hw => w_witness2)
  k_fill
  refine K06.walk (l := PySem.Challenge.rw_tornshelf_k06_whole_bursts_are_told) rfl rfl (fun w h Y => PySem.W.kIn_of Y) ?F
  case F =>
    intro w mg fa h KX G hmg
    refine' K06.all_mk KX G hmg ?a0 ?l0 ?c0 ?k0 ?a1 ?l1 ?c1 ?k1 ?a2 ?l2 ?c2 ?k2 ?a3 ?l3 ?c3 ?k3 ?a4 ?l4 ?c4 ?k4 ?a5 ?l5 ?c5 ?k5 ?a6 ?l6 ?c6 ?k6 ?a7 ?l7 ?c7 ?k7 ?a8 ?l8 ?c8 ?k8 ?z_len ?z_min ?z_range ?m_BEGIN ?r_BEGIN ?m_FEED ?r_FEED ?m_TOP ?r_TOP
    (case a0 => k_is)
    (case l0 => k_is)
    (case c0 => k_is)
    (case k0 => k_is)
    (case a1 => k_is)
    (case l1 => k_is)
    (case c1 => k_is)
    (case k1 => k_is)
    (case a2 => k_is)
    (case l2 => k_is)
    (case c2 => k_is)
    (case k2 => k_is)
    (case a3 => k_is)
    (case l3 => k_is)
    (case c3 => k_is)
    (case k3 => k_is)
    (case a4 => k_is)
    (case l4 => k_is)
    (case c4 => k_is)
    (case k4 => k_is)
    (case a5 => k_is)
    (case l5 => k_is)
    (case c5 => k_is)
    (case k5 => k_is)
    (case a6 => k_is)
    (case l6 => k_is)
    (case c6 => k_is)
    (case k6 => k_is)
    (case a7 => k_is)
    (case l7 => k_is)
    (case c7 => k_is)
    (case k7 => k_is)
    (case a8 => k_is)
    (case l8 => k_is)
    (case c8 => k_is)
    (case k8 => k_is)
    (case z_len => k_is)
    (case z_min => k_is)
    (case z_range => k_is)
    (case m_BEGIN => k_is)
    (case r_BEGIN => first | exact ⟨_, rfl⟩ | rfl)
    (case m_FEED => k_is)
    (case r_FEED => first | exact ⟨_, rfl⟩ | rfl)
    (case m_TOP => k_is)
    (case r_TOP => first | exact ⟨_, rfl⟩ | rfl)

