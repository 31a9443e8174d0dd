import PyProof.Rows.All
import Wide.All
import OpenK.AllK
import Wide.FinOn
import HandS.ForMost
import HandS.IsInst
import HandS.Flow
import HandS.WideBits
import HandS.Defaults
import HandS.MakeKw
import PySem.Challenge.RW_tornshelf_k02_bits_read
set_option Elab.async false
set_option linter.all false
set_option maxRecDepth 100000
set_option maxHeartbeats 4000000
namespace Z
open PySem L2
/-! ## Forgetting what a piece of code has made and dropped -/
def isDT : HO → Bool
  | .dT _ => true
  | .frz _ u => isDT u
  | _ => false
def okA (G : Hp) (a : Addr) : HO → Prop
  | .ins _ dx _ => G dx = some (.own a)
  | .frz _ u => okA G a u
  | _ => True
def kept : HO → Bool
  | .tup _ => true
  | .frz _ _ => true
  | .tbl _ => true
  | _ => false
/-- from H on, H' was reached; G, a part of H', is all that is still told -/
structure Gc (H H' G : Hp) : Prop where
  sub : ∀ a o, G a = some o → H' a = some o
  ok : ∀ a o, G a = some o → okA G a o ∨ (H a = some o ∧ ∀ b, H b = some (.own a) → G b = some (.own a))
  keep : ∀ b o, H b = some o → kept o = true → G b = some o
  dt : (∀ a o, G a = some o → isDT o = false) ∨ ∀ b xs, H' b = some (.tup xs) → G b = some (.tup xs)
section
variable {P : Program} {w : World} {H H' G : Hp} {h : Heap} {a : Addr} {o : HO}
theorem obj_sub (x : ObjOk P w H' h a o) (k : okA G a o) (d : isDT o = false ∨ ∀ b xs, H' b = some (.tup xs) → G b = some (.tup xs)) : ObjOk P w G h a o := by
  induction o with
  | lst xs => exact x
  | tup xs => exact x
  | dK kvs => exact x
  | dT kvs =>
    rcases d with d | d
    · cases d
    · obtain ⟨z, y, xs, r, q⟩ := x
      exact ⟨z, y, xs, Paired.mapP r fun p q z => ⟨z.1, d _ _ z.2.1, z.2.2⟩, q⟩
  | set S n => exact x
  | ins C dx fs => exact ⟨k, x.2⟩
  | own y => exact x
  | xd fs => exact x
  | rng lo hi => exact x
  | frz ob u ih => exact ⟨x.1, ih x.2 k d⟩
  | tbl ps => exact x
  | met f y => exact x
  | ext φ => exact x
theorem okA_of (x : ObjOk P w H h a o) (k : ∀ b, H b = some (.own a) → G b = some (.own a)) : okA G a o := by
  induction o with
  | ins C dx fs => exact k _ x.1
  | frz ob u ih => exact ih x.2
  | _ => trivial
end
section
variable {X : Cx} {pins pins' : List (Addr × Obj)} {σ σ' : List (Option V)} {H H' G : Hp} {s s' : Shared}
theorem none_sub (g : Gc H H' G) {b : Addr} (e : H' b = none) : G b = none := by
  cases q : G b with
  | none => rfl
  | some o => rw [g.sub b o q] at e; cases e
theorem inv_gc (hk : HOk X.prog X.w H s.heap) (I : Inv X pins σ H s) (J : Inv X pins' σ' H' s') (g : Gc H H' G) : Inv X pins' σ' G s' where
  ok := J.ok
  os := J.os
  bare := J.bare
  base :=
    { keep := J.base.keep
      slot := J.base.slot
      free := fun b o q n hx => none_sub g (J.base.free b o q n hx)
      there := J.base.there
      tups := fun b xs q => g.keep b _ (I.base.tups b xs q) rfl
      frzs := fun b o u q => g.keep b _ (I.base.frzs b o u q) rfl
      tbls := fun b ps q => by
        obtain ⟨more, e⟩ := I.base.tbls b ps q
        exact ⟨more, g.keep b _ e rfl⟩ }
  loc := J.loc
  cell := J.cell
  free := none_sub g J.free
  freeC := fun x c e => none_sub g (J.freeC x c e)
  pin := fun p hp => ⟨(J.pin p hp).1, none_sub g (J.pin p hp).2.1, (J.pin p hp).2.2⟩
  hok := fun a o e => by
    have x : ObjOk X.prog X.w H' s'.heap a o := J.hok a o (g.sub a o e)
    refine obj_sub x ?_ ?_
    · rcases g.ok a o e with k | ⟨q, k⟩
      · exact k
      · exact okA_of (hk a o q) k
    · rcases g.dt with d | d
      · exact .inl (d a o e)
      · exact .inr d
  len := J.len
/-- an expression, what it made and dropped forgotten -/
def tGc (t : TE) : TE := fun σ H Q => t σ H fun v H' => ∃ G, Gc H H' G ∧ Q v G
def uGc (t : TT) : TT := fun σ H Q => t σ H fun v H' => ∃ G, Gc H H' G ∧ Q v G
def sGc (t : TS) : TS := fun D σ H => t ⟨fun σ' H' => ∃ G, Gc H H' G ∧ D.nx σ' G, fun v H' => ∃ G, Gc H H' G ∧ D.rt v G, fun σ' H' => ∃ G, Gc H H' G ∧ D.bk σ' G, fun σ' H' => ∃ G, Gc H H' G ∧ D.ct σ' G⟩ σ H
theorem pe_gc {e : Expr} {t : TE} (h : PE X e t) : PE X e (tGc t) := by
  refine ⟨fun pins s σ H Q I q => thn (h.run pins s σ H _ I q) fun u s1 ⟨v, H1, I1, r, G, g, q1⟩ => ?_⟩
  exact ⟨v, G, inv_gc I.hok I I1 g, r, q1⟩
theorem pt_gc {e : Expr} {t : TT} (h : PT X e t) : PT X e (uGc t) := by
  refine ⟨fun pins s σ H Q I q => thn (h.run pins s σ H _ I q) fun u s1 ⟨H1, I1, G, g, q1⟩ => ?_⟩
  exact ⟨G, inv_gc I.hok I I1 g, q1⟩
theorem sp_gc {pins : List (Addr × Obj)} {σ : St} {H : Hp} {s s1 : Shared} {D : Ends} {f : Flow} (I : Inv X pins σ H s)
    (q : SP X pins ⟨fun σ' H' => ∃ G, Gc H H' G ∧ D.nx σ' G, fun v H' => ∃ G, Gc H H' G ∧ D.rt v G, fun σ' H' => ∃ G, Gc H H' G ∧ D.bk σ' G, fun σ' H' => ∃ G, Gc H H' G ∧ D.ct σ' G⟩ f s1) : SP X pins D f s1 := by
  cases f with
  | next =>
    obtain ⟨σ1, H1, I1, G, g, q1⟩ := q
    exact ⟨σ1, G, inv_gc I.hok I I1 g, q1⟩
  | brk =>
    obtain ⟨σ1, H1, I1, G, g, q1⟩ := q
    exact ⟨σ1, G, inv_gc I.hok I I1 g, q1⟩
  | cont =>
    obtain ⟨σ1, H1, I1, G, g, q1⟩ := q
    exact ⟨σ1, G, inv_gc I.hok I I1 g, q1⟩
  | ret u =>
    obtain ⟨v, σ1, H1, I1, r, G, g, q1⟩ := q
    exact ⟨v, σ1, G, inv_gc I.hok I I1 g, r, q1⟩
theorem ps_gc {st : Stmt} {t : TS} (h : PS X st t) : PS X st (sGc t) := ⟨fun pins s σ H D I q => thn (h.run pins s σ H _ I q) fun _ _ q1 => sp_gc I q1⟩
theorem pss_gc {st : List Stmt} {t : TS} (h : PSs X st t) : PSs X st (sGc t) := ⟨fun pins s σ H D I q => thn (h.run pins s σ H _ I q) fun _ _ q1 => sp_gc I q1⟩
end
/-- no dict with tuples for keys -/
def ND (H : Hp) : Prop := ∀ a o, H a = some o → isDT o = false
theorem ND.upd {H : Hp} {p : Addr} {o : HO} (h : ND H) (ho : isDT o = false := by rfl) : ND (upd H p o) := fun a u e => by
  by_cases q : a = p
  · subst q; rw [upd_same] at e; cases e; exact ho
  · rw [upd_ne q] at e; exact h a u e
theorem only_nd {H : Hp} (h : L2.Only H) : ND H := fun a o e => by
  rcases h a with q | ⟨o', xs, q⟩
  · rw [q] at e; cases e
  · rw [q] at e; cases e; rfl
section
variable {H H' G H1 : Hp} {p q : Addr} {o : HO}
theorem gc_same (h : Same H H') (nd : ND H) : Gc H H' H := ⟨h, fun a o e => .inr ⟨e, fun _ q => q⟩, fun _ _ e _ => e, .inl nd⟩
/-- where no tuple is new -/
theorem gc_sameT (h : Same H H') (nt : ∀ b xs, H' b = some (.tup xs) → H b = some (.tup xs)) : Gc H H' H := ⟨h, fun a o e => .inr ⟨e, fun _ q => q⟩, fun _ _ e _ => e, .inr nt⟩
def flatO : HO → Bool
  | .ins _ _ _ => false
  | .frz _ _ => false
  | .dT _ => false
  | _ => true
theorem okA_flat {G : Hp} {a : Addr} {o : HO} (h : flatO o = true) : okA G a o := by
  cases o <;> first | trivial | cases h
theorem isDT_flat {o : HO} (h : flatO o = true) : isDT o = false := by
  cases o <;> first | rfl | cases h
theorem okA_upd {G : Hp} {a p : Addr} {o u : HO} (e : H' p = some o) (sub : ∀ a o, G a = some o → H' a = some o) (k : okA G a u) : okA (upd G p o) a u := by
  induction u with
  | ins C dx fs =>
    show upd G p o dx = _
    by_cases q : dx = p
    · subst q
      have e2 : H' dx = some (.own a) := sub _ _ k
      rw [e] at e2
      rw [upd_same, e2]
    · rw [upd_ne q]
      exact k
  | frz ob u ih => exact ih k
  | _ => trivial
theorem upd_sub {G : Hp} {p b : Addr} {o u : HO} (e : H' p = some o) (h : H' b = some u) (k : G b = some u) : upd G p o b = some u := by
  by_cases q : b = p
  · subst q
    rw [upd_same, ← e, h]
  · rw [upd_ne q]
    exact k
/-- one more thing is told -/
theorem Gc.put (g : Gc H H' G) (e : H' p = some o) (f : flatO o = true := by rfl) : Gc H H' (upd G p o) where
  sub := fun a u h => by
    by_cases q : a = p
    · subst q; rw [upd_same] at h; cases h; exact e
    · rw [upd_ne q] at h; exact g.sub a u h
  ok := fun a u h => by
    by_cases q : a = p
    · subst q; rw [upd_same] at h; cases h; exact .inl (okA_flat f)
    · rw [upd_ne q] at h
      rcases g.ok a u h with k | ⟨k1, k2⟩
      · exact .inl (okA_upd e g.sub k)
      · exact .inr ⟨k1, fun b hb => upd_sub e (g.sub _ _ (k2 b hb)) (k2 b hb)⟩
  keep := fun b u h k => upd_sub e (g.sub _ _ (g.keep b u h k)) (g.keep b u h k)
  dt := by
    rcases g.dt with d | d
    · refine .inl fun a u h => ?_
      by_cases q : a = p
      · subst q; rw [upd_same] at h; cases h; exact isDT_flat f
      · rw [upd_ne q] at h; exact d a u h
    · exact .inr fun b xs h => upd_sub e h (d b xs h)
theorem same_up (h : Same H H1) (hq : H q = none) : Same H (upd H1 q o) := fun b u e => by
  rw [upd_ne (ne_of_none e hq)]
  exact h b u e
theorem same_new (h : Same H H1) (hq : H1 q = none) : Same H (upd H1 q o) := same_up h (h.free hq)
theorem upd_none {a : Addr} : upd H p o a = none ↔ a ≠ p ∧ H a = none := by
  unfold upd
  by_cases e : a = p
  · simp [e]
  · simp [e]
end

/-! ## Rules that serve several kinds at once -/
section
variable {X : Cx}
theorem OpR.or {f : Value → Value → Sem Value} {r r' : R2} (a : OpR X f r) (b : OpR X f r') : OpR X f (fun x y H Q => r x y H Q ∨ r' x y H Q) :=
  fun pins s σ H x y v u Q I rx ry h => h.elim (fun h => a pins s σ H x y v u Q I rx ry h) fun h => b pins s σ H x y v u Q I rx ry h
theorem CallR.or {f : Value} {r r' : List V → Hp → VK → Prop} (a : CallR X f r) (b : CallR X f r') : CallR X f (fun x H Q => r x H Q ∨ r' x H Q) :=
  fun pins s σ H xs us Q I rx h => h.elim (fun h => a pins s σ H xs us Q I rx h) fun h => b pins s σ H xs us Q I rx h
/-- list + list, both to be read -/
def rCatZ (K : PySem.W.Frag) : R2 := fun x y H Q => ∃ l b xs zs, x = .ref l ∧ y = .ref b ∧ SqL K H l xs ∧ SqL K H b zs ∧ xs.length + zs.length ≤ sizeLine ∧ ∀ p, H p = none → Q (.ref p) (upd H p (.lst (xs ++ zs)))
def rAddZ (K : PySem.W.Frag) : R2 := fun x y H Q => (rI0 (fun i j => .int (i + j)) x y H Q ∨ ∃ i j, x = .str i ∧ y = .str j ∧ i.length + j.length ≤ sizeLine ∧ Q (.str (i ++ j)) H) ∨ rCatZ K x y H Q
theorem op_catZ : OpR X (binaryOp .Add) (rCatZ X.K) := by
  intro pins s σ H x y v u Q I rx ry h
  obtain ⟨l, b, xs, zs, rfl, rfl, hH, hB, hz, q⟩ := h
  cases rx
  cases ry
  obtain ⟨its, r, pl, z⟩ := I.list hH
  obtain ⟨its2, r2, pl2, z2⟩ := I.list hB
  have l1 := r.length
  have l2 := r2.length
  obtain ⟨⟨cls, dd, data, sl⟩, ho, hc, n, hd⟩ := pl.isList
  obtain ⟨⟨cls2, dd2, data2, sl2⟩, ho2, hc2, n2, hd2⟩ := pl2.isList
  simp only at hc hd hc2 hd2
  subst hc hd hc2 hd2
  have e : its.toArray ++ its2.toArray = (its ++ its2).toArray := by simp
  refine concat_meets ⟨_, ho, rfl⟩ ⟨_, ho2, rfl⟩ noFill_list_add seq_list_add PySem.F.slot_list_add PySem.F.entry_list_add (PySem.F.args_list_add_2 _ _) (PyProof.Rows.list_addW l b its.toArray its2.toArray n n2 dd dd2 sl sl2 (by simp only [List.size_toArray]; omega)) ⟨ho, ho2, ?_⟩
  rw [e]
  exact ⟨.ref _, _, I.lnew (t' := s.toks) (r.append r2) (by rw [List.length_append]; omega), rfl, q _ I.fresh⟩
theorem op_addZ {K : PySem.W.Frag} (hK : X.K = K) : OpR X (binaryOp .Add) (rAddZ K) := by subst hK; exact OpR.or (OpR.or op_add op_add_str) op_catZ
def rMulZ : R2 := fun x y H Q => rI CMul (fun i j => .int (i * j)) x y H Q ∨ rRep x y H Q
theorem op_mulZ : OpR X (binaryOp .Mult) rMulZ := OpR.or op_mul op_rep
def rEqZ (K : PySem.W.Frag) : R2 := fun x y H Q => rEq x y H Q ∨ rEqD K x y H Q
def rNeZ (K : PySem.W.Frag) : R2 := fun x y H Q => rNe x y H Q ∨ rNeD K x y H Q
theorem op_eqZ {K : PySem.W.Frag} (hK : X.K = K) (hu : X.A.units + 64 < cLine) : OpR X (compareOp .Eq) (rEqZ K) := by subst hK; exact OpR.or op_eq (op_eqD hu)
theorem op_neZ {K : PySem.W.Frag} (hK : X.K = K) (hu : X.A.units + 64 < cLine) : OpR X (compareOp .NotEq) (rNeZ K) := by subst hK; exact OpR.or op_ne (op_neD hu)
end

/-! ## Further rules -/
section
variable {X : Cx}
/-- len of a text, a list, a tuple -/
def rLenZ (K : PySem.W.Frag) : List V → Hp → VK → Prop := fun xs H Q => ∃ x n, xs = [x] ∧ LenV K x H n ∧ Q (.int n) H
theorem call_lenZ {K : PySem.W.Frag} (hK : X.K = K) : CallR X (.builtin "len") (rLenZ K) := by subst hK; exact call_len
def rSlZ (K : PySem.W.Frag) : V → Option Int → Option Int → Hp → VK → Prop := fun x lo hi H Q => rSlL K x lo hi H Q ∨ rSlS x lo hi H Q
theorem sl_Z {K : PySem.W.Frag} (hK : X.K = K) : SlR X (rSlZ K) := by subst hK; exact SlR.or sl_list sl_str
theorem ix_seqZ {K : PySem.W.Frag} (hK : X.K = K) : IxR X (rIx K) := by subst hK; exact ix_seq
def tTruZ (K : PySem.W.Frag) (ta : TE) : TT := fun σ H Q => ta σ H fun x H' => ∃ k, TruV K x H' k ∧ Q k H'
theorem pt_truthZ {K : PySem.W.Frag} {a : Expr} {ta : TE} (hK : X.K = K) (ha : PE X a ta) (he : ∀ whole, isTrue a X.env whole = (do let v ← whole; standAt a.pos; holding [v] (truthy v))) : PT X a (tTruZ K ta) := by subst hK; exact pt_truth ha he
theorem call_isiZ {K : PySem.W.Frag} (hK : X.K = K) : CallR X (.builtin "isinstance") (rIsi K) := by subst hK; exact call_isi
def rListOf (K : PySem.W.Frag) : List V → Hp → VK → Prop := fun xs H Q => ∃ p ys, xs = [.ref p] ∧ (SqL K H p ys ∨ SqT K H p ys) ∧ ∀ l, H l = none → Q (.ref l) (upd H l (.lst ys))
theorem call_listZ {K : PySem.W.Frag} (hK : X.K = K) : CallR X (.type "list") (rListOf K) := by subst hK; exact call_list_of
theorem cr_sumZ {K : PySem.W.Frag} (hK : X.K = K) (hc : X.calm = true) : CallR X (.builtin "sum") (rSum K) := by subst hK; exact cr_sum hc
theorem cr_allZ {K : PySem.W.Frag} (hK : X.K = K) (hc : X.calm = true) : CallR X (.builtin "all") (rAll K) := by subst hK; exact cr_all hc
theorem cr_anyZ {K : PySem.W.Frag} (hK : X.K = K) (hc : X.calm = true) : CallR X (.builtin "any") (rAny K) := by subst hK; exact cr_any hc
theorem cr_maxZ {K : PySem.W.Frag} (hK : X.K = K) (hc : X.calm = true) : CallR X (.builtin "max") (rMax K) := by subst hK; exact cr_max hc
theorem cr_minZ {K : PySem.W.Frag} (hK : X.K = K) (hc : X.calm = true) : CallR X (.builtin "min") (rMin K) := by subst hK; exact cr_min hc
theorem pi_listZ {K : PySem.W.Frag} {tg l : Expr} {tl : TE} (hK : X.K = K) (hl : PE X l tl) : PI X tg l (iList K tl) := by subst hK; exact pi_list hl
theorem pi_tupZ {K : PySem.W.Frag} {tg l : Expr} {tl : TE} (hK : X.K = K) (hl : PE X l tl) : PI X tg l (iTup K tl) := by subst hK; exact pi_tup hl
theorem pi_enumZ {K : PySem.W.Frag} {e : Expr} {ta : TA} {p pos tpos : Pos} {elts : List Expr} {kk : Nat} (hK : X.K = K) (hg : Gl X "enumerate") (hm : X.mg "enumerate" = none) (ha : PA X [e] ta) (hs : starEach [e] X.env = [(false, eval e X.env)] := by rfl) :
    PI X (.Tuple elts kk tpos) (.Call (.Name "enumerate" p) [e] [] pos) (iEnum K ta) := by subst hK; exact pi_enum hg hm ha hs
theorem pi_zipZ {K : PySem.W.Frag} {e e2 : Expr} {ta : TA} {p pos tpos : Pos} {elts : List Expr} {kk : Nat} (hK : X.K = K) (hg : Gl X "zip") (hm : X.mg "zip" = none) (ha : PA X [e, e2] ta)
    (hs : starEach [e, e2] X.env = (false, eval e X.env) :: starEach [e2] X.env := by rfl) (hpl : (backTo pos (starEach [e2] X.env)).any (·.1) = false := by rfl) :
    PI X (.Tuple elts kk tpos) (.Call (.Name "zip" p) [e, e2] [] pos) (iZip K ta) := by subst hK; exact pi_zip hg hm ha hs hpl
theorem pe_fldZ {K : PySem.W.Frag} {e : Expr} {f : Str} {pos : Pos} {ta : TE} (hK : X.K = K) (he : PE X e ta) (hb : attributeBase e f X.env (eval e X.env) = eval e X.env) : PE X (.Attribute e f pos) (tFld K ta f) := by subst hK; exact pe_fld he hb
theorem pg_tupZ {K : PySem.W.Frag} {es : List Expr} {k : Nat} {t : TGs} {n : Nat} {pos : Pos} (hK : X.K = K) (hc : X.calm = true) (h : PGs X es t)
    (hn : (assignEach es X.env).length = n := by rfl) (hst : (assignEach es X.env).findIdx? (·.1) = none := by rfl) : PG X (.Tuple es k pos) (gTup K n t) := by subst hK; exact pg_tup hc h hn hst
theorem pe_bmZ {K : PySem.W.Frag} {o e : Expr} {es : List Expr} {to : TE} {t : TA} {name : Str} {apos cpos : Pos} {T id : String} {r : V → List V → Hp → VK → Prop} (hK : X.K = K) (pa : PlainAttrs T) (slot : Slot T name id) (hty : typeOf (.builtin id) = pure (.type "method_descriptor")) (hm : MtR X id r) (ho : PE X o to) (ha : PA X (e :: es) t)
    (hbase : attributeBase o name X.env (eval o X.env) = eval o X.env := by rfl)
    (hfew : ((backTo cpos (starEach (e :: es) X.env)).all (fun x => !x.1) && (backToKw cpos (keywordEach [] X.env)).all (fun x => x.1.isSome)
      && decide ((e :: es).length + ([] : List Keyword).length + (if ([] : List Keyword).isEmpty then 0 else 1) < 30)) = true := by rfl)
    (hline : (apos.endLine == cpos.line) = true := by rfl) (hs : starEach (e :: es) X.env = (false, eval e X.env) :: starEach es X.env := by rfl) (hplain : (backTo cpos (starEach es X.env)).any (·.1) = false := by rfl) :
    PE X (.Call (.Attribute o name apos) (e :: es) [] cpos) (tBM K T r to t) := by subst hK; exact pe_bm pa slot hty hm ho ha hbase hfew hline hs hplain
theorem pe_bm0Z {K : PySem.W.Frag} {o : Expr} {to : TE} {name : Str} {apos cpos : Pos} {T id : String} {r : V → List V → Hp → VK → Prop} (hK : X.K = K) (pa : PlainAttrs T) (slot : Slot T name id) (hty : typeOf (.builtin id) = pure (.type "method_descriptor")) (hm : MtR X id r) (ho : PE X o to)
    (hbase : attributeBase o name X.env (eval o X.env) = eval o X.env := by rfl) (hline : (apos.endLine == cpos.line) = true := by rfl) : PE X (.Call (.Attribute o name apos) [] [] cpos) (tBM0 K T r to) := by subst hK; exact pe_bm0 pa slot hty hm ho hbase hline
def tCallZ (sp : Sp) (E : XK) (t : TA) : TE := fun σ H Q => t σ H fun vs H1 => sp vs H1 Q E
variable {CX : CXT} {k : Nat} {f C : Addr} {fd : FuncData} {ps : List Str} {sp : Sp} {E : XK} {x m : Str} {p pos apos : Pos} {e o : Expr} {es : List Expr} {ta : TE} {t : TA}
theorem callZ_eq : tCall sp [] E t = tCallZ sp E t := by
  funext σ H Q
  show t σ H (fun vs H1 => sp (vs ++ []) H1 Q E) = t σ H fun vs H1 => sp vs H1 Q E
  simp only [List.append_nil]
theorem pe_callZ (F : FnOk X.prog X.w X.K X.mg X.base CX k f fd ps sp) (hr : Room k X.A) (hg : Gl X x) (hm : X.mg x = some (.ref f)) (hk : PySem.W.keepIn X.K (.ref f) = true) (hb : Binds X.K fd ps []) (hx : Passes CX X E)
    (ha : PA X (e :: es) t) (hdb : (x == ("__debug__" : Str)) = false := by decide) (he : starEach (e :: es) X.env = (false, eval e X.env) :: starEach es X.env := by rfl) (hpl : (backTo pos (starEach es X.env)).any (·.1) = false := by rfl) :
    PE X (.Call (.Name x p) (e :: es) [] pos) (tCallZ sp E t) := by
  rw [← callZ_eq]
  exact pe_call F hr hg hm hk hb .nil hx ha hdb he hpl
theorem pe_call0Z (F : FnOk X.prog X.w X.K X.mg X.base CX k f fd ps sp) (hr : Room k X.A) (hg : Gl X x) (hm : X.mg x = some (.ref f)) (hk : PySem.W.keepIn X.K (.ref f) = true) (hb : Binds X.K fd ps []) (hx : Passes CX X E)
    (hdb : (x == ("__debug__" : Str)) = false := by decide) : PE X (.Call (.Name x p) [] [] pos) (tCallZ sp E tNil) := by
  rw [← callZ_eq]
  exact pe_call0 F hr hg hm hk hb .nil hx hdb
end
/-! ## Steps: what a reading asks, one construct at a time -/
section
variable {K : PySem.W.Frag} {σ : St} {H : Hp} {nx bk ct : St → Hp → Prop} {rt : VK} {t u : TS} {te ta tb tc : TE} {tt uu : TT} {Q : VK} {QB : Bool → Hp → Prop} {QA : List V → Hp → Prop} {QO : Option Int → Hp → Prop} {v : V} {i : Nat} {b : Bool} {tr : TA}
theorem z_seq (h : t ⟨fun σ H => u ⟨nx, rt, bk, ct⟩ σ H, rt, bk, ct⟩ σ H) : tSeq t u ⟨nx, rt, bk, ct⟩ σ H := h
theorem z_asg (h : te σ H fun x H1 => nx (σ.set i (some x)) H1) : tAsg te (gName i) ⟨nx, rt, bk, ct⟩ σ H := h
theorem z_asgS {to ti : TE} {ts : TSet} (h : te σ H fun x H1 => to σ H1 fun o H2 => ti σ H2 fun j H3 => ts o j x H3 fun H4 => nx σ H4) : tAsg te (gSub to ti ts) ⟨nx, rt, bk, ct⟩ σ H := h
theorem z_asgT {n : Nat} {g : TGs} (h : te σ H fun x H1 => gTup K n g x σ H1 nx) : tAsg te (gTup K n g) ⟨nx, rt, bk, ct⟩ σ H := h
theorem z_drop (h : te σ H fun _ H1 => nx σ H1) : tDrop te ⟨nx, rt, bk, ct⟩ σ H := h
theorem z_ret (h : te σ H fun v H1 => rt v H1) : tRet te ⟨nx, rt, bk, ct⟩ σ H := h
theorem z_retN (h : rt .non H) : tRetN ⟨nx, rt, bk, ct⟩ σ H := h
theorem z_next (h : nx σ H) : tNext ⟨nx, rt, bk, ct⟩ σ H := h
theorem z_brk (h : bk σ H) : tBreak ⟨nx, rt, bk, ct⟩ σ H := h
theorem z_cont (h : ct σ H) : tCont ⟨nx, rt, bk, ct⟩ σ H := h
theorem z_ifS (h : tt σ H fun b H1 => if b = true then t ⟨nx, rt, bk, ct⟩ σ H1 else u ⟨nx, rt, bk, ct⟩ σ H1) : tIfS tt t u ⟨nx, rt, bk, ct⟩ σ H := h
theorem z_sgc (h : t ⟨fun σ' H' => ∃ G, Gc H H' G ∧ nx σ' G, fun v H' => ∃ G, Gc H H' G ∧ rt v G, fun σ' H' => ∃ G, Gc H H' G ∧ bk σ' G, fun σ' H' => ∃ G, Gc H H' G ∧ ct σ' G⟩ σ H) : sGc t ⟨nx, rt, bk, ct⟩ σ H := h
theorem z_aug {x : V} {ti : TIp} (e : σ[i]? = some (some x)) (h : te σ H fun y H1 => ti x y H1 fun z H2 => nx (σ.set i (some z)) H2) : tAug i te ti ⟨nx, rt, bk, ct⟩ σ H := ⟨x, e, h⟩
theorem z_ipI {f : Int → Int → Int} {i j : Int} (h : Q (.int (f i j)) H) : ipI f (.int i) (.int j) H Q := ⟨i, j, rfl, rfl, h⟩
theorem z_tgc (h : te σ H fun v H' => ∃ G, Gc H H' G ∧ Q v G) : tGc te σ H Q := h
theorem z_ugc (h : tt σ H fun v H' => ∃ G, Gc H H' G ∧ QB v G) : uGc tt σ H QB := h
theorem z_var (e : σ[i]? = some (some v)) (h : Q v H) : tVar i σ H Q := ⟨v, e, h⟩
theorem z_c (h : Q v H) : tC v σ H Q := h
theorem z_op {r : R2} (h : ta σ H fun x H1 => tb σ H1 fun y H2 => r x y H2 Q) : tOp r ta tb σ H Q := h
theorem z_un {r : V → Hp → VK → Prop} (h : ta σ H fun x H1 => r x H1 Q) : tUn r ta σ H Q := h
theorem z_rU {g : Int → V} {i : Int} (h : Q (g i) H) : rU g (.int i) H Q := ⟨i, rfl, h⟩
theorem z_cb {r : List V → Hp → VK → Prop} (h : tr σ H fun vs H1 => r vs H1 Q) : tCB r tr σ H Q := h
theorem z_call {sp : Sp} {E : XK} (h : tr σ H fun vs H1 => sp vs H1 Q E) : tCallZ sp E tr σ H Q := h
theorem z_nil (h : QA [] H) : tNil σ H QA := h
theorem z_cons (h : ta σ H fun x H1 => tr σ H1 fun xs H2 => QA (x :: xs) H2) : tCons ta tr σ H QA := h
theorem z_tst (h : te σ H fun x H' => ∃ k, x = .bl k ∧ QB k H') : tTest te σ H QB := h
theorem z_tB (h : te σ H fun x H' => ∃ k, x = .bl k ∧ QB k H') : tB te σ H QB := h
theorem z_bl {Qb : Bool → Prop} (h : Qb b) : ∃ k, V.bl b = .bl k ∧ Qb k := ⟨b, rfl, h⟩
theorem z_and (h : tt σ H fun c H1 => if c = true then uu σ H1 QB else QB false H1) : tAnd tt uu σ H QB := h
theorem z_or (h : tt σ H fun c H1 => if c = true then QB true H1 else uu σ H1 QB) : tOr tt uu σ H QB := h
theorem z_not (h : tt σ H fun c H1 => QB (!c) H1) : tNot tt σ H QB := h
theorem z_andV (h : ta σ H fun x H1 => ∃ c, x = .bl c ∧ if c = true then tb σ H1 Q else Q (.bl false) H1) : tAndV ta tb σ H Q := h
theorem z_orV (h : ta σ H fun x H1 => ∃ c, x = .bl c ∧ if c = true then Q (.bl true) H1 else tb σ H1 Q) : tOrV ta tb σ H Q := h
theorem z_notV (h : ta σ H fun x H1 => ∃ c, x = .bl c ∧ Q (.bl (!c)) H1) : tNotV ta σ H Q := h
theorem z_ifE (h : tt σ H fun c H1 => if c = true then ta σ H1 Q else tb σ H1 Q) : tIf tt ta tb σ H Q := h
theorem z_chain {r r' : R2} (h : ta σ H fun x H1 => tb σ H1 fun y H2 => r x y H2 fun z H3 => ∃ k, z = .bl k ∧ (if k = true then tc σ H3 fun w' H4 => r' y w' H4 Q else Q (.bl false) H3)) : tChain r r' ta tb tc σ H Q := h
theorem z_truZ (h : ta σ H fun x H' => ∃ k, TruV K x H' k ∧ QB k H') : tTruZ K ta σ H QB := h
theorem z_truB {Qb : Bool → Prop} (h : Qb b) : ∃ k, TruV K (.bl b) H k ∧ Qb k := ⟨b, rfl, h⟩
theorem z_truI {Qb : Bool → Prop} {i : Int} (h : Qb (!decide (i = 0))) : ∃ k, TruV K (.int i) H k ∧ Qb k := ⟨i != 0, rfl, by
  have e : (i != 0) = !decide (i = 0) := by
    by_cases q : i = 0
    · simp [q]
    · simp [q]
  rw [e]
  exact h⟩
theorem z_lst (h : tr σ H fun xs H1 => xs.length ≤ sizeLine ∧ ∀ p, H1 p = none → Q (.ref p) (upd H1 p (.lst xs))) : tLst tr σ H Q := h
theorem z_tup (h : tr σ H fun xs H1 => xs.length ≤ sizeLine ∧ ∀ p, H1 p = none → Q (.ref p) (upd H1 p (.tup xs))) : tTup tr σ H Q := h
theorem z_sl {r : V → Option Int → Option Int → Hp → VK → Prop} {tl th : TO} (h : te σ H fun x H1 => tl σ H1 fun l H2 => th σ H2 fun u H3 => r x l u H3 Q) : tSl r te tl th σ H Q := h
theorem z_nopart (h : QO none H) : tNoPart σ H QO := h
theorem z_part (h : te σ H fun x H1 => ∃ i, x = .int i ∧ QO (some i) H1) : tPart te σ H QO := h
theorem z_int {Qi : Int → Prop} {i : Int} (h : Qi i) : ∃ j, V.int i = .int j ∧ Qi j := ⟨i, rfl, h⟩
/-! ### operators -/
theorem z_I0 {g : Int → Int → V} {i j : Int} (h : Q (g i j) H) : rI0 g (.int i) (.int j) H Q := ⟨i, j, rfl, rfl, h⟩
theorem z_I {C : Int → Int → Prop} {g : Int → Int → V} {i j : Int} (c : C i j) (h : Q (g i j) H) : rI C g (.int i) (.int j) H Q := ⟨i, j, rfl, rfl, c, h⟩
theorem z_addI {i j : Int} (h : Q (.int (i + j)) H) : rAddZ K (.int i) (.int j) H Q := .inl (.inl ⟨i, j, rfl, rfl, h⟩)
theorem z_addS {x y : Str} (c : x.length + y.length ≤ sizeLine) (h : Q (.str (x ++ y)) H) : rAddZ K (.str x) (.str y) H Q := .inl (.inr ⟨x, y, rfl, rfl, c, h⟩)
theorem z_cat {a c : Addr} {xs zs : List V} (ha : SqL K H a xs) (hc : SqL K H c zs) (z : xs.length + zs.length ≤ sizeLine) (h : ∀ p, H p = none → Q (.ref p) (upd H p (.lst (xs ++ zs)))) : rAddZ K (.ref a) (.ref c) H Q :=
  .inr ⟨a, c, xs, zs, rfl, rfl, ha, hc, z, h⟩
theorem z_mulI {i j : Int} (c : CMul i j) (h : Q (.int (i * j)) H) : rMulZ (.int i) (.int j) H Q := .inl ⟨i, j, rfl, rfl, c, h⟩
theorem z_rep {a : Addr} {xs : List V} {k : Int} (ha : H a = some (.lst xs)) (h1 : -(2 ^ 63) ≤ k) (h2 : k < 2 ^ 63) (z : xs.length * k.toNat ≤ sizeLine) (h : ∀ p, H p = none → Q (.ref p) (upd H p (.lst (List.replicate k.toNat xs).flatten))) : rMulZ (.ref a) (.int k) H Q :=
  .inr ⟨a, k, xs, rfl, rfl, ha, h1, h2, z, h⟩
theorem z_eqI {i j : Int} (h : Q (.bl (decide (i = j))) H) : rEqZ K (.int i) (.int j) H Q := .inl ⟨rfl, by
  have e : decide (V.int i = V.int j) = decide (i = j) := by simp
  rw [e]; exact h⟩
theorem z_neI {i j : Int} (h : Q (.bl (!decide (i = j))) H) : rNeZ K (.int i) (.int j) H Q := .inl ⟨rfl, by
  have e : decide (V.int i = V.int j) = decide (i = j) := by simp
  rw [e]; exact h⟩
theorem z_eqS {x y : Str} (h : Q (.bl (decide (x = y))) H) : rEqZ K (.str x) (.str y) H Q := .inl ⟨rfl, by
  have e : decide (V.str x = V.str y) = decide (x = y) := by simp
  rw [e]; exact h⟩
theorem z_neS {x y : Str} (h : Q (.bl (!decide (x = y))) H) : rNeZ K (.str x) (.str y) H Q := .inl ⟨rfl, by
  have e : decide (V.str x = V.str y) = decide (x = y) := by simp
  rw [e]; exact h⟩
/-! ### tests that are open -/
theorem z_if {p A B : Prop} [Decidable p] (h1 : p → A) (h2 : ¬ p → B) : if decide p = true then A else B := by
  by_cases h : p
  · rw [if_pos (decide_eq_true h)]; exact h1 h
  · rw [if_neg (by rw [decide_eq_false h]; exact Bool.false_ne_true)]; exact h2 h
theorem z_ifn {p A B : Prop} [Decidable p] (h1 : ¬ p → A) (h2 : p → B) : if (!decide p) = true then A else B := by
  by_cases h : p
  · rw [if_neg (by rw [decide_eq_true h]; exact Bool.false_ne_true)]; exact h2 h
  · rw [if_pos (by rw [decide_eq_false h]; rfl)]; exact h1 h
theorem z_nn (h : Q (.bl b) H) : Q (.bl (!!b)) H := by rw [Bool.not_not]; exact h
theorem z_iT {A B : Prop} (h : A) : if true = true then A else B := by rw [if_pos rfl]; exact h
theorem z_iF {A B : Prop} (h : B) : if false = true then A else B := by rw [if_neg Bool.false_ne_true]; exact h
theorem z_inF {A B : Prop} (h : A) : if (!false) = true then A else B := h
theorem z_inT {A B : Prop} (h : B) : if (!true) = true then A else B := by
  rw [if_neg (by decide)]; exact h
/-! ### lists that are read -/
theorem at_int {ns : List Int} {i : Int} (h0 : 0 ≤ i) (h1 : i < ns.length) : atI (ns.map V.int) i = some (.int (ns.getD i.toNat 0)) := by
  obtain ⟨n, rfl⟩ : ∃ n : Nat, i = (n : Int) := ⟨i.toNat, (Int.toNat_of_nonneg h0).symm⟩
  have hl : n < ns.length := by omega
  rw [Int.toNat_natCast]
  refine atI_nat ?_
  rw [List.getElem?_map, List.getElem?_eq_getElem hl]
  simp [List.getD, hl]
theorem z_ixL {a : Addr} {xs : List V} {i : Int} (ha : SqL K H a xs) (hi : atI xs i = some v) (h : Q v H) : rIx K (.ref a) (.int i) H Q := .inl ⟨a, xs, i, v, rfl, rfl, ha, hi, h⟩
theorem z_ixT {a : Addr} {xs : List V} {i : Int} (ha : SqT K H a xs) (hi : atI xs i = some v) (h : Q v H) : rIx K (.ref a) (.int i) H Q := .inr (.inl ⟨a, xs, i, v, rfl, rfl, ha, hi, h⟩)
theorem z_ixI {a : Addr} {ns : List Int} {i : Int} (ha : SqL K H a (ns.map V.int)) (h0 : 0 ≤ i) (h1 : i < ns.length) (h : Q (.int (ns.getD i.toNat 0)) H) : rIx K (.ref a) (.int i) H Q := z_ixL ha (at_int h0 h1) h
theorem z_setI {a : Addr} {ns : List Int} {i w : Int} {R : Hp → Prop} (ha : H a = some (.lst (ns.map V.int))) (h0 : 0 ≤ i) (h1 : i < ns.length) (h : R (upd H a (.lst ((ns.set i.toNat w).map V.int)))) : rSetL (.ref a) (.int i) (.int w) H R :=
  ⟨a, _, i, i.toNat, rfl, rfl, ha, by unfold ixN; rw [if_pos h0, List.length_map, if_pos h1], by rw [← List.map_set]; exact h⟩
theorem z_lenL {a : Addr} {xs : List V} (ha : SqL K H a xs) (h : Q (.int (xs.length : Int)) H) : rLenZ K [.ref a] H Q := ⟨_, xs.length, rfl, .inl ⟨xs, ha, rfl⟩, h⟩
theorem z_lenI {a : Addr} {ns : List Int} (ha : SqL K H a (ns.map V.int)) (h : Q (.int (ns.length : Int)) H) : rLenZ K [.ref a] H Q := z_lenL ha (by rw [List.length_map]; exact h)
theorem z_slL {a : Addr} {xs : List V} {lo hi : Option Int} (ha : SqL K H a xs) (h : ∀ p, H p = none → Q (.ref p) (upd H p (.lst (cutV xs lo hi)))) : rSlZ K (.ref a) lo hi H Q := .inl ⟨a, xs, rfl, ha, h⟩
theorem z_slS {x : Str} {lo hi : Option Int} (c : x.length ≤ sizeLine) (h : Q (.str (cutS x lo hi)) H) : rSlZ K (.str x) lo hi H Q := .inr ⟨x, rfl, c, h⟩
theorem sq_up {a p : Addr} {o : HO} {xs : List V} (hp : H p = none) (h : SqL K H a xs) : SqL K (upd H p o) a xs := (same_up (fun _ _ e => e) hp : Same H (upd H p o)).seq h
end

theorem cx_K {CX : CXT} {P : Program} {w : World} {K : PySem.W.Frag} {mg : Str → Option Value} {base : Heap} {N : List Str} {qual : Str} {scope : Scope} {f : Addr} {cd : Value} {A : Around} {outer : List Env} {s : Shared} {H : Hp} {E : XK} :
    (cxOf CX P w K mg base N qual scope f cd A outer s H E).K = K := rfl

/-! ## Loops, what a turn made and dropped forgotten at its end -/
structure Rt (X : Cx) (H : Hp) : Prop where
  keep : ∀ b o, X.H_0 b = some o → kept o = true → ∃ u, H b = some u ∧ kept u = true ∧ (∀ xs, o = .tup xs → u = o) ∧ (∀ ob u', o = .frz ob u' → u = o) ∧ ∀ ps, o = .tbl ps → ∃ more, u = .tbl (ps ++ more)
  cl : ∀ a o (G : Hp), H a = some o → (∀ b, H b = some (.own a) → G b = some (.own a)) → okA G a o
section
variable {X : Cx}
theorem Rt.of {pins : List (Addr × Obj)} {σ : List (Option V)} {H : Hp} {s : Shared} (I : Inv X pins σ H s) : Rt X H where
  keep := fun b o e k => by
    cases o with
    | tup xs => exact ⟨_, I.base.tups b xs e, rfl, fun _ _ => rfl, fun _ _ _ => rfl, fun _ q => nomatch q⟩
    | frz ob u => exact ⟨_, I.base.frzs b ob u e, rfl, fun _ _ => rfl, fun _ _ _ => rfl, fun _ q => nomatch q⟩
    | tbl ps =>
      obtain ⟨more, q⟩ := I.base.tbls b ps e
      exact ⟨_, q, rfl, fun _ z => (nomatch z), fun _ _ z => (nomatch z), fun _ z => by cases z; exact ⟨more, rfl⟩⟩
    | _ => cases k
  cl := fun a o G e k => okA_of (I.hok a o e) k
theorem inv_gcR {pins : List (Addr × Obj)} {σ : List (Option V)} {H H' G : Hp} {s : Shared} (R : Rt X H) (J : Inv X pins σ H' s) (g : Gc H H' G) : Inv X pins σ G s where
  ok := J.ok
  os := J.os
  bare := J.bare
  base :=
    { keep := J.base.keep
      slot := J.base.slot
      free := fun b o q n hx => none_sub g (J.base.free b o q n hx)
      there := J.base.there
      tups := fun b xs q => by
        obtain ⟨u, e, k, h1, _, _⟩ := R.keep b _ q rfl
        rw [h1 _ rfl] at e k
        exact g.keep b _ e k
      frzs := fun b o u q => by
        obtain ⟨u', e, k, _, h1, _⟩ := R.keep b _ q rfl
        rw [h1 _ _ rfl] at e k
        exact g.keep b _ e k
      tbls := fun b ps q => by
        obtain ⟨u', e, k, _, _, h1⟩ := R.keep b _ q rfl
        obtain ⟨more, rfl⟩ := h1 _ rfl
        exact ⟨more, g.keep b _ e k⟩ }
  loc := J.loc
  cell := J.cell
  free := none_sub g J.free
  freeC := fun x c e => none_sub g (J.freeC x c e)
  pin := fun p hp => ⟨(J.pin p hp).1, none_sub g (J.pin p hp).2.1, (J.pin p hp).2.2⟩
  hok := fun a o e => by
    have x : ObjOk X.prog X.w H' s.heap a o := J.hok a o (g.sub a o e)
    refine obj_sub x ?_ ?_
    · rcases g.ok a o e with k | ⟨q, k⟩
      · exact k
      · exact R.cl a o G q k
    · rcases g.dt with d | d
      · exact .inl (d a o e)
      · exact .inr d
  len := J.len
/-- a block whose leavings are forgotten as from the heap H0 -/
def sGcE (H0 : Hp) (t : TS) : TS := fun D σ H => t ⟨fun σ' H' => ∃ G, Gc H0 H' G ∧ D.nx σ' G, fun v H' => ∃ G, Gc H0 H' G ∧ D.rt v G, fun σ' H' => ∃ G, Gc H0 H' G ∧ D.bk σ' G, fun σ' H' => ∃ G, Gc H0 H' G ∧ D.ct σ' G⟩ σ H
theorem pss_gcE {H0 : Hp} (R : Rt X H0) {st : List Stmt} {t : TS} (h : PSs X st t) : PSs X st (sGcE H0 t) := ⟨fun pins s σ H D I q => thn (h.run pins s σ H _ I q) fun f s1 q1 => by
  cases f with
  | next =>
    obtain ⟨σ1, H1, I1, G, g, q1⟩ := q1
    exact ⟨σ1, G, inv_gcR R I1 g, q1⟩
  | brk =>
    obtain ⟨σ1, H1, I1, G, g, q1⟩ := q1
    exact ⟨σ1, G, inv_gcR R I1 g, q1⟩
  | cont =>
    obtain ⟨σ1, H1, I1, G, g, q1⟩ := q1
    exact ⟨σ1, G, inv_gcR R I1 g, q1⟩
  | ret u =>
    obtain ⟨v, σ1, H1, I1, r, G, g, q1⟩ := q1
    exact ⟨v, σ1, G, inv_gcR R I1 g, r, q1⟩⟩
def ForZ (J : It) (g : TG) (tb : TS) : TS := fun D σ H => ∃ W : Nat → Nat → St → Hp → Prop, (∃ m, W 0 m σ H) ∧ ∀ i m σ H, W i m σ H →
  (J.stop i H ∧ D.nx σ H) ∨ (J.go i H ∧ ∃ N : St → Hp → Prop, (∀ σ' H', N σ' H' → ∃ m', m' < m ∧ W (i + 1) m' σ' H') ∧ ∀ x H', J.yld i H x H' → g x σ H' fun σ2 H2 => tb { D with nx := N, ct := N, bk := D.nx } σ2 H2)
def tForZ (wi : TI) (g : TG) (tb : TS) : TS := fun D σ H => wi σ H fun J H1 => ForZ J g (sGcE H tb) D σ H1
theorem ps_forZ {tg iter : Expr} {body : List Stmt} {wi : TI} {g : TG} {tb : TS} {pos : Pos} (hp : PassesOwn (model X.prog X.w) X.A X.env X.xe) (hc : X.calm = true) (hi : PI X tg iter wi) (hg : PG X tg g) (hb : PSs X body tb)
    (hs : ∀ x, foldedSetIterable iter X.env x = pure x := by intro _; rfl) : PS X (.For tg iter body [] pos) (tForZ wi g tb) :=
  ⟨fun pins s σ H D I h => (ps_for hp hc hi hg (pss_gcE (Rt.of I) hb) hs).run pins s σ H D I h⟩
def tWhileZ (c : TT) (tb : TS) : TS := fun D σ H => tWhile c (sGcE H tb) D σ H
theorem ps_whileZ {c : Expr} {body : List Stmt} {tc : TT} {tb : TS} {pos : Pos} (hp : PassesOwn (model X.prog X.w) X.A X.env X.xe) (hc : PT X c tc) (hb : PSs X body tb) : PS X (.While c body [] pos) (tWhileZ tc tb) :=
  ⟨fun pins s σ H D I h => (ps_while hp hc (pss_gcE (Rt.of I) hb)).run pins s σ H D I h⟩
end
section
variable {K : PySem.W.Frag} {σ : St} {H H0 : Hp} {nx bk ct : St → Hp → Prop} {rt : VK} {tb : TS} {g : TG} {a : Addr} {xs : List V} {tr : TA} {te : TE}
theorem z_forR1 (h : tr σ H fun vs H1 => ∃ n : Int, vs = [.int n] ∧ -(2 ^ 62) ≤ n ∧ n < 2 ^ 62 ∧ ForZ (Itr 0 n.toNat) g (sGcE H tb) ⟨nx, rt, bk, ct⟩ σ H1) : tForZ (iRng1 tr) g tb ⟨nx, rt, bk, ct⟩ σ H := h
theorem z_forR2 (h : tr σ H fun vs H1 => ∃ i j : Int, vs = [.int i, .int j] ∧ (-(2 ^ 62) ≤ i ∧ i < 2 ^ 62 ∧ -(2 ^ 62) ≤ j ∧ j < 2 ^ 62) ∧ ForZ (Itr i (j - i).toNat) g (sGcE H tb) ⟨nx, rt, bk, ct⟩ σ H1) : tForZ (iRng2 tr) g tb ⟨nx, rt, bk, ct⟩ σ H := h
theorem z_forL (h : te σ H fun x H1 => ∃ a, x = .ref a ∧ (∃ xs, SqL K H1 a xs) ∧ ForZ (Itl K a) g (sGcE H tb) ⟨nx, rt, bk, ct⟩ σ H1) : tForZ (iList K te) g tb ⟨nx, rt, bk, ct⟩ σ H := h
theorem z_forT (h : te σ H fun x H1 => ∃ a, x = .ref a ∧ (∃ xs, SqT K H1 a xs) ∧ ForZ (Itt K a) g (sGcE H tb) ⟨nx, rt, bk, ct⟩ σ H1) : tForZ (iTup K te) g tb ⟨nx, rt, bk, ct⟩ σ H := h
theorem z_forE (h : tr σ H fun vs H1 => ∃ a xs, vs = [.ref a] ∧ SqL K H1 a xs ∧ ForZ (Ite K a) g (sGcE H tb) ⟨nx, rt, bk, ct⟩ σ H1) : tForZ (iEnum K tr) g tb ⟨nx, rt, bk, ct⟩ σ H := h
theorem z_rn1 {R : Int → Prop} {n : Int} (h0 : -(2 ^ 62) ≤ n) (h1 : n < 2 ^ 62) (h : R n) : ∃ m : Int, [V.int n] = [V.int m] ∧ -(2 ^ 62) ≤ m ∧ m < 2 ^ 62 ∧ R m := ⟨n, rfl, h0, h1, h⟩
theorem z_rn2 {R : Int → Int → Prop} {m n : Int} (h0 : -(2 ^ 62) ≤ m ∧ m < 2 ^ 62 ∧ -(2 ^ 62) ≤ n ∧ n < 2 ^ 62) (h : R m n) : ∃ i j : Int, [V.int m, V.int n] = [V.int i, V.int j] ∧ (-(2 ^ 62) ≤ i ∧ i < 2 ^ 62 ∧ -(2 ^ 62) ≤ j ∧ j < 2 ^ 62) ∧ R i j := ⟨m, n, rfl, h0, h⟩
/-- over a range, by what holds between the turns -/
theorem f_range {lo : Int} {n : Nat} (Pv : Nat → St → Hp → Prop) (h0 : Pv 0 σ H)
    (hs : ∀ i σ H, i < n → Pv i σ H → g (.int (lo + i)) σ H fun σ2 H2 => tb ⟨fun σ' H' => ∃ G, Gc H0 H' G ∧ Pv (i + 1) σ' G, fun v H' => ∃ G, Gc H0 H' G ∧ rt v G, fun σ' H' => ∃ G, Gc H0 H' G ∧ nx σ' G, fun σ' H' => ∃ G, Gc H0 H' G ∧ Pv (i + 1) σ' G⟩ σ2 H2) (hd : ∀ σ H, Pv n σ H → nx σ H) :
    ForZ (Itr lo n) g (sGcE H0 tb) ⟨nx, rt, bk, ct⟩ σ H := for_range (D := ⟨nx, rt, bk, ct⟩) (tb := sGcE H0 tb) Pv h0 hs hd
theorem f_list (Pv : Nat → St → Hp → Prop) (h0 : Pv 0 σ H) (hl : ∀ i σ H, i ≤ xs.length → Pv i σ H → SqL K H a xs)
    (hs : ∀ i x σ H, xs[i]? = some x → Pv i σ H → g x σ H fun σ2 H2 => tb ⟨fun σ' H' => ∃ G, Gc H0 H' G ∧ Pv (i + 1) σ' G, fun v H' => ∃ G, Gc H0 H' G ∧ rt v G, fun σ' H' => ∃ G, Gc H0 H' G ∧ nx σ' G, fun σ' H' => ∃ G, Gc H0 H' G ∧ Pv (i + 1) σ' G⟩ σ2 H2) (hd : ∀ σ H, Pv xs.length σ H → nx σ H) :
    ForZ (Itl K a) g (sGcE H0 tb) ⟨nx, rt, bk, ct⟩ σ H := for_list (D := ⟨nx, rt, bk, ct⟩) (tb := sGcE H0 tb) Pv h0 hl hs hd
theorem f_tup (Pv : Nat → St → Hp → Prop) (h0 : Pv 0 σ H) (hl : ∀ i σ H, i ≤ xs.length → Pv i σ H → SqT K H a xs)
    (hs : ∀ i x σ H, xs[i]? = some x → Pv i σ H → g x σ H fun σ2 H2 => tb ⟨fun σ' H' => ∃ G, Gc H0 H' G ∧ Pv (i + 1) σ' G, fun v H' => ∃ G, Gc H0 H' G ∧ rt v G, fun σ' H' => ∃ G, Gc H0 H' G ∧ nx σ' G, fun σ' H' => ∃ G, Gc H0 H' G ∧ Pv (i + 1) σ' G⟩ σ2 H2) (hd : ∀ σ H, Pv xs.length σ H → nx σ H) :
    ForZ (Itt K a) g (sGcE H0 tb) ⟨nx, rt, bk, ct⟩ σ H := for_tup (D := ⟨nx, rt, bk, ct⟩) (tb := sGcE H0 tb) Pv h0 hl hs hd
/-- over a list of whole numbers -/
theorem f_ints {ns : List Int} (Pv : Nat → St → Hp → Prop) (h0 : Pv 0 σ H) (hl : ∀ i σ H, i ≤ ns.length → Pv i σ H → SqL K H a (ns.map V.int))
    (hs : ∀ (i : Nat) (n : Int) σ H, ns[i]? = some n → Pv i σ H → g (.int n) σ H fun σ2 H2 => tb ⟨fun σ' H' => ∃ G, Gc H0 H' G ∧ Pv (i + 1) σ' G, fun v H' => ∃ G, Gc H0 H' G ∧ rt v G, fun σ' H' => ∃ G, Gc H0 H' G ∧ nx σ' G, fun σ' H' => ∃ G, Gc H0 H' G ∧ Pv (i + 1) σ' G⟩ σ2 H2) (hd : ∀ σ H, Pv ns.length σ H → nx σ H) :
    ForZ (Itl K a) g (sGcE H0 tb) ⟨nx, rt, bk, ct⟩ σ H :=
  f_list (xs := ns.map V.int) Pv h0 (fun i σ H hi => hl i σ H (by rw [List.length_map] at hi; exact hi)) (fun i x σ H hx p => by
    rw [List.getElem?_map] at hx
    cases e : ns[i]? with
    | none => rw [e] at hx; cases hx
    | some n => rw [e] at hx; cases hx; exact hs i n σ H e p) (fun σ H p => hd σ H (by rw [List.length_map] at p; exact p))
theorem z_gn {i : Nat} {v : V} {Q : St → Hp → Prop} (h : Q (σ.set i (some v)) H) : gName i v σ H Q := h
/-! ### forgetting nothing -/
def Mu (H : Hp) (p : Addr) : Prop := ∀ o, H p = some o → kept o = false ∧ ∀ a, o ≠ .own a
theorem mu_none {p : Addr} (h : H p = none) : Mu H p := fun o e => by rw [h] at e; cases e
theorem mu_lst {p : Addr} {ys : List V} (h : H p = some (.lst ys)) : Mu H p := fun o e => by rw [h] at e; cases e; exact ⟨rfl, fun _ q => nomatch q⟩
theorem mu_dK {p : Addr} {ys : List (Key × V)} (h : H p = some (.dK ys)) : Mu H p := fun o e => by rw [h] at e; cases e; exact ⟨rfl, fun _ q => nomatch q⟩
theorem mu_ins {p C dx : Addr} {ys : List (Str × V)} (h : H p = some (.ins C dx ys)) : Mu H p := fun o e => by rw [h] at e; cases e; exact ⟨rfl, fun _ q => nomatch q⟩
theorem mu_atL {p : Addr} {ys : List V} : Mu (upd H p (.lst ys)) p := mu_lst upd_same
theorem mu_atD {p : Addr} {ys : List (Key × V)} : Mu (upd H p (.dK ys)) p := mu_dK upd_same
theorem mu_up {p q : Addr} {o : HO} (h : Mu H p) (e : p ≠ q) : Mu (upd H q o) p := fun u z => by rw [upd_ne e] at z; exact h u z
theorem gc_refl : Gc H H H := ⟨fun _ _ e => e, fun a o e => .inr ⟨e, fun _ q => q⟩, fun _ _ e _ => e, .inr fun _ _ e => e⟩
theorem gc_up {H' : Hp} {p : Addr} {o : HO} (g : Gc H H' H') (m : Mu H p) (m' : Mu H' p) (f : flatO o = true := by rfl) : Gc H (upd H' p o) (upd H' p o) where
  sub := fun _ _ e => e
  ok := fun a u h => by
    by_cases q : a = p
    · subst q; rw [upd_same] at h; cases h; exact .inl (okA_flat f)
    · rw [upd_ne q] at h
      rcases g.ok a u h with k | ⟨k1, k2⟩
      · refine .inl ?_
        clear h
        induction u with
        | ins C dx fs =>
          show upd H' p o dx = _
          have z : dx ≠ p := fun z => by subst z; exact (m' _ k).2 _ rfl
          rw [upd_ne z]; exact k
        | frz ob u ih => exact ih k
        | _ => trivial
      · refine .inr ⟨k1, fun b hb => ?_⟩
        have z : b ≠ p := fun z => by subst z; exact (m _ hb).2 _ rfl
        rw [upd_ne z]
        exact k2 b hb
  keep := fun b u h k => by
    have z : b ≠ p := fun z => by subst z; rw [(m _ h).1] at k; cases k
    rw [upd_ne z]
    exact g.keep b u h k
  dt := .inr fun _ _ e => e
end

/-! ## Comprehensions -/
def LcZ (J : It) (g : TG) (tt : TT) (te : TE) (vs : List Nat) : TE := fun σ H1 Q => ∀ D, H1 D = none → ∃ W : Nat → Nat → Hp → Prop, (∃ m, W 0 m (upd H1 D (.lst []))) ∧ ∀ i m H, W i m H →
  (J.stop i H ∧ Q (.ref D) H) ∨ (J.go i H ∧ ∃ Nx : Hp → Prop, (∀ H', Nx H' → ∃ m', m' < m ∧ W (i + 1) m' H') ∧ ∀ x H', J.yld i H x H' → g x (wipe σ vs) H' fun σ2 H2 => wipe σ2 vs = wipe σ vs ∧ tt σ2 H2 fun b H3 =>
    if b = true then te σ2 H3 fun y H4 => ∃ acc, H4 D = some (.lst acc) ∧ acc.length < sizeLine ∧ Nx (upd H4 D (.lst (acc ++ [y]))) else Nx H3)
section
variable {K : PySem.W.Frag} {σ : St} {H : Hp} {Q : VK} {g : TG} {tt : TT} {te tl : TE} {ws : List Nat} {tr : TA} {a : Addr} {j : Nat}
theorem z_lcR1 (h : tr σ H fun vs H1 => ∃ n : Int, vs = [.int n] ∧ -(2 ^ 62) ≤ n ∧ n < 2 ^ 62 ∧ LcZ (Itr 0 n.toNat) g tt te ws σ H1 Q) : tLc (iRng1 tr) g tt te ws σ H Q := h
theorem z_lcR2 (h : tr σ H fun vs H1 => ∃ i j : Int, vs = [.int i, .int j] ∧ (-(2 ^ 62) ≤ i ∧ i < 2 ^ 62 ∧ -(2 ^ 62) ≤ j ∧ j < 2 ^ 62) ∧ LcZ (Itr i (j - i).toNat) g tt te ws σ H1 Q) : tLc (iRng2 tr) g tt te ws σ H Q := h
theorem z_lcL (h : tl σ H fun x H1 => ∃ a, x = .ref a ∧ (∃ xs, SqL K H1 a xs) ∧ LcZ (Itl K a) g tt te ws σ H1 Q) : tLc (iList K tl) g tt te ws σ H Q := h
theorem z_lcS (h : tl σ H fun v H1 => ∃ x, v = .str x ∧ LcZ (Its x) g tt te ws σ H1 Q) : tLc (iStr tl) g tt te ws σ H Q := h
theorem c_range {lo : Int} {n : Nat} (f : Nat → V) (hz : n ≤ sizeLine) (hw : ∀ x, wipe ((wipe σ ws).set j (some x)) ws = wipe σ ws)
    (he : ∀ (i : Nat) H1 (R : VK), i < n → Same H H1 → R (f i) H1 → te ((wipe σ ws).set j (some (.int (lo + i)))) H1 R)
    (k : ∀ D, H D = none → Q (.ref D) (upd H D (.lst ((List.range n).map f)))) : LcZ (Itr lo n) (gName j) tYes te ws σ H Q := fun D hD =>
  lc_range (lo := lo) (n := n) (g := gName j) (tt := tYes) (te := te) (vs := ws) (σ := σ) (fun i H' => H' = upd H D (.lst ((List.range i).map f))) rfl (fun i H' hi e => by
    subst e
    refine ⟨hw _, ?_⟩
    unfold tYes
    refine iteT ?_
    refine he i _ _ hi (same_up (fun _ _ e => e) hD) ⟨_, upd_same, by simp; omega, ?_⟩
    rw [upd_upd, List.range_succ, List.map_append] <;> rfl) fun H' e => by subst e; exact k D hD
theorem c_list {xs : List V} (f : V → V) (hx : SqL K H a xs) (hw : ∀ x, wipe ((wipe σ ws).set j (some x)) ws = wipe σ ws) (hz : xs.length ≤ sizeLine)
    (he : ∀ (i : Nat) (x : V) H1 (R : VK), xs[i]? = some x → Same H H1 → R (f x) H1 → te ((wipe σ ws).set j (some x)) H1 R)
    (k : ∀ D, H D = none → Q (.ref D) (upd H D (.lst (xs.map f)))) : LcZ (Itl K a) (gName j) tYes te ws σ H Q := fun D hD =>
  lc_list (K := K) (a := a) (xs := xs) (g := gName j) (tt := tYes) (te := te) (vs := ws) (σ := σ) (fun i H' => H' = upd H D (.lst ((xs.take i).map f))) (by simp) (fun i H' _ e => by subst e; exact sq_up hD hx) (fun i x H' hi e => by
    subst e
    refine ⟨hw _, ?_⟩
    unfold tYes
    refine iteT ?_
    have hlt := (List.getElem?_eq_some_iff.mp hi).1
    refine he i x _ _ hi (same_up (fun _ _ e => e) hD) ⟨_, upd_same, by simp; omega, ?_⟩
    rw [upd_upd]
    have e2 : xs.take (i + 1) = xs.take i ++ [x] := by rw [List.take_add_one, hi] <;> rfl
    rw [e2, List.map_append] <;> rfl) fun H' e => by subst e; have := k D hD; rw [List.take_length]; exact this
theorem c_ints {ns : List Int} (f : Int → V) (hx : SqL K H a (ns.map V.int)) (hw : ∀ x, wipe ((wipe σ ws).set j (some x)) ws = wipe σ ws) (hz : ns.length ≤ sizeLine)
    (he : ∀ (i : Nat) (x : Int) H1 (R : VK), ns[i]? = some x → Same H H1 → R (f x) H1 → te ((wipe σ ws).set j (some (.int x))) H1 R)
    (k : ∀ D, H D = none → Q (.ref D) (upd H D (.lst (ns.map f)))) : LcZ (Itl K a) (gName j) tYes te ws σ H Q :=
  c_list (xs := ns.map V.int) (fun v => match v with | .int i => f i | v => v) hx hw (by rw [List.length_map]; exact hz) (fun i x H1 R hi s q => by
    rw [List.getElem?_map] at hi
    cases e : ns[i]? with
    | none => rw [e] at hi; cases hi
    | some n => rw [e] at hi; cases hi; exact he i n H1 R e s q) fun D hD => by
      have := k D hD
      rw [List.map_map]
      exact this
end
/-! ## isinstance, ends, bits -/
section
variable {K : PySem.W.Frag} {σ : St} {H : Hp} {Q : VK} {R : Hp → Prop}
theorem z_isi {x : V} {n m : String} {b : Bool} (ty : TyX K H x (.type n)) (e : PySem.W.kitOne K (.type n) (.type m) = some b) (h : Q (.bl b) H) : rIsi K [x, .ty m] H Q := ⟨x, .ty m, _, _, b, rfl, .ty m, ty, e, h⟩
theorem z_isiII {i : Int} (h : Q (.bl true) H) : rIsi K [.int i, .ty "int"] H Q := z_isi (.base (.int i)) (kit_ty (by decide +kernel)) h
theorem z_isiIB {i : Int} (h : Q (.bl false) H) : rIsi K [.int i, .ty "bool"] H Q := z_isi (.base (.int i)) (kit_ty (by decide +kernel)) h
theorem z_isiIL {i : Int} (h : Q (.bl false) H) : rIsi K [.int i, .ty "list"] H Q := z_isi (.base (.int i)) (kit_ty (by decide +kernel)) h
theorem z_isiIS {i : Int} (h : Q (.bl false) H) : rIsi K [.int i, .ty "str"] H Q := z_isi (.base (.int i)) (kit_ty (by decide +kernel)) h
theorem z_isiBI {i : Bool} (h : Q (.bl true) H) : rIsi K [.bl i, .ty "int"] H Q := z_isi (.base (.bl i)) (kit_ty (by decide +kernel)) h
theorem z_isiBB {i : Bool} (h : Q (.bl true) H) : rIsi K [.bl i, .ty "bool"] H Q := z_isi (.base (.bl i)) (kit_ty (by decide +kernel)) h
theorem z_isiNI (h : Q (.bl false) H) : rIsi K [.non, .ty "int"] H Q := z_isi (.base .non) (kit_ty (by decide +kernel)) h
theorem z_isiNL (h : Q (.bl false) H) : rIsi K [.non, .ty "list"] H Q := z_isi (.base .non) (kit_ty (by decide +kernel)) h
theorem z_isiNS (h : Q (.bl false) H) : rIsi K [.non, .ty "str"] H Q := z_isi (.base .non) (kit_ty (by decide +kernel)) h
theorem z_isiSS {x : Str} (h : Q (.bl true) H) : rIsi K [.str x, .ty "str"] H Q := z_isi (.base (.str x)) (kit_ty (by decide +kernel)) h
theorem z_isiSI {x : Str} (h : Q (.bl false) H) : rIsi K [.str x, .ty "int"] H Q := z_isi (.base (.str x)) (kit_ty (by decide +kernel)) h
theorem z_isiSL {x : Str} (h : Q (.bl false) H) : rIsi K [.str x, .ty "list"] H Q := z_isi (.base (.str x)) (kit_ty (by decide +kernel)) h
theorem z_isiLL {a : Addr} {xs : List V} (e : H a = some (.lst xs)) (h : Q (.bl true) H) : rIsi K [.ref a, .ty "list"] H Q := z_isi (.base (.lst e)) (kit_ty (by decide +kernel)) h
theorem z_isiLI {a : Addr} {xs : List V} (e : H a = some (.lst xs)) (h : Q (.bl false) H) : rIsi K [.ref a, .ty "int"] H Q := z_isi (.base (.lst e)) (kit_ty (by decide +kernel)) h
theorem z_isiLS {a : Addr} {xs : List V} (e : H a = some (.lst xs)) (h : Q (.bl false) H) : rIsi K [.ref a, .ty "str"] H Q := z_isi (.base (.lst e)) (kit_ty (by decide +kernel)) h
theorem z_isiTT {a : Addr} {xs : List V} (e : H a = some (.tup xs)) (h : Q (.bl true) H) : rIsi K [.ref a, .ty "tuple"] H Q := z_isi (.base (.tup e)) (kit_ty (by decide +kernel)) h
theorem z_isiTL {a : Addr} {xs : List V} (e : H a = some (.tup xs)) (h : Q (.bl false) H) : rIsi K [.ref a, .ty "list"] H Q := z_isi (.base (.tup e)) (kit_ty (by decide +kernel)) h
theorem z_isiTI {a : Addr} {xs : List V} (e : H a = some (.tup xs)) (h : Q (.bl false) H) : rIsi K [.ref a, .ty "int"] H Q := z_isi (.base (.tup e)) (kit_ty (by decide +kernel)) h
/-- nothing was made -/
theorem z_gc0 (h : R H) : ∃ G, Gc H H G ∧ R G := ⟨H, gc_refl, h⟩
theorem z_gc {H' G : Hp} (g : Gc H H' G) (h : R G) : ∃ G, Gc H H' G ∧ R G := ⟨G, g, h⟩
/-- one thing was made, and is told -/
theorem z_gcN {p : Addr} {o : HO} (hp : H p = none) (f : flatO o = true) (h : R (upd H p o)) : ∃ G, Gc H (upd H p o) G ∧ R G := ⟨_, gc_up gc_refl (mu_none hp) (mu_none hp) f, h⟩
end
section
theorem and_nat (a b : Nat) : Builtin.bitAnd (a : Int) (b : Int) = ((a &&& b : Nat) : Int) := by rw [PyProof.Rows.bitAnd_pp (by omega) (by omega)] <;> rfl
theorem xor_nat (a b : Nat) : Builtin.bitXor (a : Int) (b : Int) = ((a ^^^ b : Nat) : Int) := by rw [Bits.bitXor_pp (by omega) (by omega)] <;> rfl
theorem or_nat (a b : Nat) : Builtin.bitOr (a : Int) (b : Int) = ((a ||| b : Nat) : Int) := by rw [Bits.bitOr_pp (by omega) (by omega)] <;> rfl
end
/-- a row of bytes -/
def Byt (ns : List Int) : Prop := ∀ n ∈ ns, 0 ≤ n ∧ n < 256

section
variable {K : PySem.W.Frag} {σ : St} {H : Hp} {Q : VK} {te : TE} {ws : List Nat} {a : Addr} {j : Nat}
/-- whole numbers of which is told what holds of each -/
theorem c_rangeP {lo : Int} {n : Nat} (Pr : Nat → Int → Prop) (hz : n ≤ sizeLine) (hw : ∀ x, wipe ((wipe σ ws).set j (some x)) ws = wipe σ ws)
    (he : ∀ (i : Nat) H1 (R : VK), i < n → Same H H1 → (∀ y, Pr i y → R (.int y) H1) → te ((wipe σ ws).set j (some (.int (lo + i)))) H1 R)
    (k : ∀ D (ns : List Int), H D = none → ns.length = n → (∀ (i : Nat) y, ns[i]? = some y → Pr i y) → Q (.ref D) (upd H D (.lst (ns.map V.int)))) : LcZ (Itr lo n) (gName j) tYes te ws σ H Q := fun D hD =>
  lc_range (lo := lo) (n := n) (g := gName j) (tt := tYes) (te := te) (vs := ws) (σ := σ) (fun i H' => ∃ ns : List Int, ns.length = i ∧ (∀ (i : Nat) y, ns[i]? = some y → Pr i y) ∧ H' = upd H D (.lst (ns.map V.int))) ⟨[], rfl, fun i y e => by simp at e, rfl⟩ (fun i H' hi ⟨ns, hl, hp, e⟩ => by
    subst e
    refine ⟨hw _, ?_⟩
    unfold tYes
    refine iteT ?_
    refine he i _ _ hi (same_up (fun _ _ e => e) hD) fun y hy => ⟨_, upd_same, by rw [List.length_map]; omega, ns ++ [y], by simp [hl], fun m z e => ?_, by rw [upd_upd, List.map_append] <;> rfl⟩
    rw [List.getElem?_append] at e
    split at e
    · exact hp m z e
    · rename_i h
      have em : m - ns.length = 0 := by
        cases q : m - ns.length with
        | zero => rfl
        | succ d => rw [q] at e; simp at e
      rw [em] at e
      have ez : y = z := by simpa using e
      subst ez
      have : m = i := by omega
      subst this
      exact hy) fun H' ⟨ns, hl, hp, e⟩ => by subst e; exact k D ns hD hl hp
end
theorem byt_of {ns : List Int} (h : ∀ (i : Nat) y, ns[i]? = some y → 0 ≤ y ∧ y < 256) : Byt ns := fun n hn => by
  obtain ⟨i, hi, e⟩ := List.mem_iff_getElem.mp hn
  exact h i n (by rw [List.getElem?_eq_getElem hi, e])
/-! ## == of lists of whole numbers -/
section
variable {K : PySem.W.Frag} {H : Hp} {Q : VK}
theorem dpAll_ints {K : PySem.W.Frag} {H : Hp} : ∀ ns : List Int, DpAll K H (ns.map V.int) (ns.map PyData.int)
  | [] => .nil
  | n :: ns => .cons (.int n) (dpAll_ints ns)
theorem dp_ints {a : Addr} {ns : List Int} (h : SqL K H a (ns.map V.int)) : Dp K H (.ref a) (.list (ns.map PyData.int)) := .lst h (dpAll_ints ns)
theorem canLay_ints : ∀ ns : List Int, PyData.canLayAll0 (ns.map PyData.int) = true
  | [] => rfl
  | n :: ns => by
    show (PyData.canLay0 (.int n) && PyData.canLayAll0 (ns.map PyData.int)) = true
    rw [canLay_ints ns] <;> rfl
theorem depth_ints : ∀ ns : List Int, PyData.depthAll (ns.map PyData.int) = 0
  | [] => rfl
  | n :: ns => by
    show max (PyData.depth (.int n)) (PyData.depthAll (ns.map PyData.int)) = 0
    rw [depth_ints ns] <;> rfl
theorem shaped_ints (ns : List Int) : SeqAt.shaped (.list (ns.map PyData.int)) = true := by
  unfold SeqAt.shaped
  rw [show PyData.canLay0 (.list (ns.map PyData.int)) = true from canLay_ints ns]
  rw [show PyData.depth (.list (ns.map PyData.int)) = 1 from by show PyData.depthAll _ + 1 = 1; rw [depth_ints]] <;> rfl
theorem eqvAll_ints : ∀ ns ms : List Int, PyData.eqvAll (ns.map PyData.int) (ms.map PyData.int) = decide (ns = ms)
  | [], [] => rfl
  | [], m :: ms => rfl
  | n :: ns, [] => rfl
  | n :: ns, m :: ms => by
    show (n == m && PyData.eqvAll (ns.map PyData.int) (ms.map PyData.int)) = _
    rw [eqvAll_ints ns ms]
    by_cases h : n = m
    · subst h; simp
    · simp [h]
theorem eqv_ints (ns ms : List Int) : PyData.eqv (.list (ns.map PyData.int)) (.list (ms.map PyData.int)) = decide (ns = ms) := eqvAll_ints ns ms
theorem z_eqL {a b : Addr} {ns ms : List Int} (ha : SqL K H a (ns.map V.int)) (hb : SqL K H b (ms.map V.int)) (h : Q (.bl (decide (ns = ms))) H) : rEqZ K (.ref a) (.ref b) H Q :=
  .inr ⟨_, _, dp_ints ha, dp_ints hb, shaped_ints ns, shaped_ints ms, by rw [eqv_ints]; exact h⟩
theorem z_neL {a b : Addr} {ns ms : List Int} (ha : SqL K H a (ns.map V.int)) (hb : SqL K H b (ms.map V.int)) (h : Q (.bl (!decide (ns = ms))) H) : rNeZ K (.ref a) (.ref b) H Q :=
  .inr ⟨_, _, dp_ints ha, dp_ints hb, shaped_ints ns, shaped_ints ms, by rw [eqv_ints]; exact h⟩
end

/-! ## Heaps that grow -/
section
variable {K : PySem.W.Frag} {H H1 H' : Hp} {p q a : Addr} {o u : HO} {xs : List V}
def isTup : HO → Bool
  | .tup _ => true
  | _ => false
/-- what stood stands, no tuple is new -/
structure Sx (H H1 : Hp) : Prop where
  same : Same H H1
  nt : ∀ b xs, H1 b = some (.tup xs) → H b = some (.tup xs)
theorem sx_refl : Sx H H := ⟨fun _ _ e => e, fun _ _ e => e⟩
theorem sx_up (s : Sx H H1) (hq : H q = none) (ho : isTup o = false) : Sx H (upd H1 q o) := ⟨same_up s.same hq, fun b xs e => by
  by_cases z : b = q
  · subst z; rw [upd_same] at e; cases e; cases ho
  · rw [upd_ne z] at e; exact s.nt b xs e⟩
theorem sx_new (s : Sx H H1) (hq : H1 q = none) (ho : isTup o = false) : Sx H (upd H1 q o) := sx_up s (s.same.free hq) ho
theorem gc_sx (s : Sx H H1) : Gc H H1 H := gc_sameT s.same s.nt
theorem get_new (hq : H1 q = none) (h : H1 p = some o) : upd H1 q u p = some o := by rw [upd_ne (ne_of_none h hq)]; exact h
theorem ne_new (hq : upd H p o q = none) : q ≠ p := (upd_none.mp hq).1
theorem none_new (hq : upd H p o q = none) : H q = none := (upd_none.mp hq).2
theorem sq_new (hq : H1 q = none) (h : SqL K H1 a xs) : SqL K (upd H1 q u) a xs := sq_up hq h
end

section
variable {K : PySem.W.Frag} {H H0 H1 H' : Hp} {p q a : Addr} {o u : HO} {xs : List V}
def looseO : HO → Bool
  | .own _ => false
  | .tup _ => false
  | .frz _ _ => false
  | .tbl _ => false
  | _ => true
/-- H0 has more than H: things that may be dropped -/
structure Bs (H H0 : Hp) : Prop where
  same : Same H H0
  back : ∀ b u, H0 b = some u → looseO u = false → H b = some u
theorem bs_refl : Bs H H := ⟨fun _ _ e => e, fun _ _ e _ => e⟩
theorem bs_up (s : Bs H H1) (hq : H q = none) (ho : looseO o = true) : Bs H (upd H1 q o) := ⟨same_up s.same hq, fun b u e k => by
  by_cases z : b = q
  · subst z; rw [upd_same] at e; cases e; rw [ho] at k; cases k
  · rw [upd_ne z] at e; exact s.back b u e k⟩
theorem bs_new (s : Bs H H1) (hq : H1 q = none) (ho : looseO o = true) : Bs H (upd H1 q o) := bs_up s (s.same.free hq) ho
theorem kept_loose {o : HO} (h : kept o = true) : looseO o = false := by cases o <;> first | rfl | cases h
/-- back to a smaller heap -/
theorem gc_bs (b : Bs H H0) (s : Sx H H') : Gc H0 H' H := ⟨s.same, fun a o e => .inr ⟨b.same a o e, fun c h => b.back c _ h rfl⟩, fun c u e k => b.back c u e (kept_loose k), .inr s.nt⟩
theorem gc_bsD (b : Bs H H0) (s : Same H H') (nd : ND H) : Gc H0 H' H := ⟨s, fun a o e => .inr ⟨b.same a o e, fun c h => b.back c _ h rfl⟩, fun c u e k => b.back c u e (kept_loose k), .inl nd⟩
theorem gc_mut {p : Addr} {xs ys : List V} : Gc (upd H p (.lst xs)) (upd H p (.lst ys)) (upd H p (.lst ys)) := by
  have g : Gc (upd H p (.lst xs)) (upd (upd H p (.lst xs)) p (.lst ys)) (upd (upd H p (.lst xs)) p (.lst ys)) := gc_up gc_refl mu_atL mu_atL
  rw [upd_upd] at g
  exact g
theorem sq_same (s : Same H H1) (h : SqL K H a xs) : SqL K H1 a xs := s.seq h
end

theorem gc_one {H H0 H' : Hp} {p : Addr} {o : HO} (b : Bs H H0) (s : Sx H H') (e : H' p = some o) (f : flatO o = true := by rfl) : Gc H0 H' (upd H p o) := (gc_bs b s).put e f

theorem upd_comm {H : Hp} {p q : Addr} {o u : HO} (h : p ≠ q) : upd (upd H p o) q u = upd (upd H q u) p o := by
  funext b
  unfold upd
  by_cases e : b = q
  · subst e
    have : ¬ b = p := fun z => h z.symm
    simp [this]
  · simp [e]

section
variable {K : PySem.W.Frag} {σ : St} {H : Hp} {Q : VK} {R A B : Prop} {p a : Addr} {xs ys : List V} {y : V}
theorem z_ifR {α : Type} [DecidableEq α] {x : α} (h : A) : if decide (x = x) = true then A else B := by rw [if_pos (decide_eq_true rfl)]; exact h
theorem z_ifnR {α : Type} [DecidableEq α] {x : α} (h : B) : if (!decide (x = x)) = true then A else B := by rw [decide_eq_true (rfl : x = x)]; exact z_inT h
theorem z_ifY {c : Prop} [Decidable c] (hc : c) (h : A) : if decide c = true then A else B := by rw [if_pos (decide_eq_true hc)]; exact h
theorem z_ifN {c : Prop} [Decidable c] (hc : ¬ c) (h : B) : if decide c = true then A else B := by rw [if_neg (by rw [decide_eq_false hc]; exact Bool.false_ne_true)]; exact h
theorem z_ifnY {c : Prop} [Decidable c] (hc : c) (h : B) : if (!decide c) = true then A else B := by rw [decide_eq_true hc]; exact z_inT h
theorem z_ifnN {c : Prop} [Decidable c] (hc : ¬ c) (h : A) : if (!decide c) = true then A else B := by rw [decide_eq_false hc]; exact z_inF h
theorem z_list (hp : SqL K H p ys) (h : ∀ l, H l = none → Q (.ref l) (upd H l (.lst ys))) : rListOf K [.ref p] H Q := ⟨p, ys, rfl, .inl hp, h⟩
theorem z_bm {T : String} {r : V → List V → Hp → VK → Prop} {to : TE} {t : TA} (h : to σ H fun x H1 => tyV K T x H1 ∧ t σ H1 fun xs H2 => r x xs H2 Q) : tBM K T r to t σ H Q := h
theorem z_bm0 {T : String} {r : V → List V → Hp → VK → Prop} {to : TE} (h : to σ H fun x H1 => tyV K T x H1 ∧ r x [] H1 Q) : tBM0 K T r to σ H Q := h
theorem z_tyL (hp : SqL K H p xs) (r : R) : tyV K "list" (.ref p) H ∧ R := ⟨.inl ⟨rfl, _, hp⟩, r⟩
theorem z_app (hp : H p = some (.lst xs)) (hz : xs.length < sizeLine) (h : Q .non (upd H p (.lst (xs ++ [y])))) : rAppend (.ref p) [y] H Q := ⟨p, xs, y, rfl, rfl, hp, hz, h⟩
theorem cut_to (xs : List V) {i : Int} (h : 0 ≤ i) : cutV xs none (some i) = xs.take i.toNat := by
  unfold cutV
  have e1 : HT.sIx xs.length 0 none = 0 := rfl
  have e2 : HT.sIx xs.length xs.length (some i) = min i.toNat xs.length := if_neg (by omega)
  rw [e1, e2, List.drop_zero, Nat.sub_zero]
  by_cases l : i.toNat ≤ xs.length
  · rw [Nat.min_eq_left l]
  · rw [Nat.min_eq_right (by omega), List.take_of_length_le (Nat.le_refl _), List.take_of_length_le (by omega)]
theorem cut_from (xs : List V) {i : Int} (h : 0 ≤ i) : cutV xs (some i) none = xs.drop i.toNat := by
  unfold cutV
  have e1 : HT.sIx xs.length xs.length none = xs.length := rfl
  have e2 : HT.sIx xs.length 0 (some i) = min i.toNat xs.length := if_neg (by omega)
  rw [e1, e2]
  by_cases l : i.toNat ≤ xs.length
  · rw [Nat.min_eq_left l, List.take_of_length_le (by rw [List.length_drop]; exact Nat.le_refl _)]
  · rw [Nat.min_eq_right (by omega), Nat.sub_self, List.take_zero, List.drop_eq_nil_of_le (by omega)]
theorem cut_part (xs : List V) {i j : Int} (h : 0 ≤ i) (h' : 0 ≤ j) : cutV xs (some i) (some j) = (xs.drop i.toNat).take (j.toNat - i.toNat) := by
  unfold cutV
  have e1 : HT.sIx xs.length xs.length (some j) = min j.toNat xs.length := if_neg (by omega)
  have e2 : HT.sIx xs.length 0 (some i) = min i.toNat xs.length := if_neg (by omega)
  rw [e1, e2]
  by_cases l : i.toNat ≤ xs.length
  · rw [Nat.min_eq_left l]
    by_cases l2 : j.toNat ≤ xs.length
    · rw [Nat.min_eq_left l2]
    · rw [Nat.min_eq_right (by omega), List.take_of_length_le (by rw [List.length_drop]; exact Nat.le_refl _), List.take_of_length_le (by rw [List.length_drop]; omega)]
  · rw [Nat.min_eq_right (a := i.toNat) (by omega), List.drop_eq_nil_of_le (Nat.le_refl _), List.drop_eq_nil_of_le (by omega), List.take_nil, List.take_nil]
theorem z_slTo {i : Int} (h0 : 0 ≤ i) (hp : SqL K H a xs) (h : ∀ p, H p = none → Q (.ref p) (upd H p (.lst (xs.take i.toNat)))) : rSlZ K (.ref a) none (some i) H Q := z_slL hp fun p hp => by rw [cut_to _ h0]; exact h p hp
theorem z_slFrom {i : Int} (h0 : 0 ≤ i) (hp : SqL K H a xs) (h : ∀ p, H p = none → Q (.ref p) (upd H p (.lst (xs.drop i.toNat)))) : rSlZ K (.ref a) (some i) none H Q := z_slL hp fun p hp => by rw [cut_from _ h0]; exact h p hp
theorem z_slPart {i j : Int} (h0 : 0 ≤ i) (h1 : 0 ≤ j) (hp : SqL K H a xs) (h : ∀ p, H p = none → Q (.ref p) (upd H p (.lst ((xs.drop i.toNat).take (j.toNat - i.toNat))))) : rSlZ K (.ref a) (some i) (some j) H Q := z_slL hp fun p hp => by rw [cut_part _ h0 h1]; exact h p hp
end

section
variable {K : PySem.W.Frag} {σ σ' : St} {H : Hp} {Q : VK} {a : Addr} {ns : List Int} {t u : TS} {D : Ends} {i : Nat} {x : Option V}
theorem z_slToI {i : Int} (h0 : 0 ≤ i) (hp : SqL K H a (ns.map V.int)) (h : ∀ p, H p = none → Q (.ref p) (upd H p (.lst ((ns.take i.toNat).map V.int)))) : rSlZ K (.ref a) none (some i) H Q := z_slTo h0 hp fun p hp => by rw [← List.map_take]; exact h p hp
theorem z_slFromI {i : Int} (h0 : 0 ≤ i) (hp : SqL K H a (ns.map V.int)) (h : ∀ p, H p = none → Q (.ref p) (upd H p (.lst ((ns.drop i.toNat).map V.int)))) : rSlZ K (.ref a) (some i) none H Q := z_slFrom h0 hp fun p hp => by rw [← List.map_drop]; exact h p hp
theorem z_slPartI {i j : Int} (h0 : 0 ≤ i) (h1 : 0 ≤ j) (hp : SqL K H a (ns.map V.int)) (h : ∀ p, H p = none → Q (.ref p) (upd H p (.lst (((ns.drop i.toNat).take (j.toNat - i.toNat)).map V.int)))) : rSlZ K (.ref a) (some i) (some j) H Q := z_slPart h0 h1 hp fun p hp => by rw [← List.map_drop, ← List.map_take]; exact h p hp
theorem z_catI {a c : Addr} {ns ms : List Int} (ha : SqL K H a (ns.map V.int)) (hc : SqL K H c (ms.map V.int)) (z : ns.length + ms.length ≤ sizeLine) (h : ∀ p, H p = none → Q (.ref p) (upd H p (.lst ((ns ++ ms).map V.int)))) : rAddZ K (.ref a) (.ref c) H Q :=
  z_cat ha hc (by rw [List.length_map, List.length_map]; exact z) fun p hp => by rw [← List.map_append]; exact h p hp
theorem z_seqS (e : σ.set i x = σ') (h : tSeq t u D σ' H) : tSeq t u D (σ.set i x) H := by rw [e]; exact h
theorem z_eqLN {a b : Addr} {xs ys : List V} {ns ms : List Int} (e1 : xs = ns.map V.int) (e2 : ys = ms.map V.int) (ha : SqL K H a xs) (hb : SqL K H b ys) (h : Q (.bl (decide (ns = ms))) H) : rEqZ K (.ref a) (.ref b) H Q := by subst e1 e2; exact z_eqL ha hb h
theorem z_neLN {a b : Addr} {xs ys : List V} {ns ms : List Int} (e1 : xs = ns.map V.int) (e2 : ys = ms.map V.int) (ha : SqL K H a xs) (hb : SqL K H b ys) (h : Q (.bl (!decide (ns = ms))) H) : rNeZ K (.ref a) (.ref b) H Q := by subst e1 e2; exact z_neL ha hb h
end

section
variable {K : PySem.W.Frag} {H : Hp} {Q : VK} {n : Nat}
theorem shl_pos : (0 : Int) < 1 * 2 ^ n := by rw [Int.one_mul]; exact Int.pow_pos (by decide)
def rMin2 : List V → Hp → VK → Prop := fun xs H Q => ∃ i j, xs = [.int i, .int j] ∧ Q (.int (if j < i then j else i)) H
def rMax2 : List V → Hp → VK → Prop := fun xs H Q => ∃ i j, xs = [.int i, .int j] ∧ Q (.int (if j > i then j else i)) H
theorem call_min2Z {X : Cx} (hc : X.calm = true) : CallR X (.builtin "min") rMin2 := call_min2 hc
theorem call_max2Z {X : Cx} (hc : X.calm = true) : CallR X (.builtin "max") rMax2 := call_max2 hc
theorem z_min2 {i j : Int} (h : Q (.int (min i j)) H) : rMin2 [.int i, .int j] H Q := ⟨i, j, rfl, by
  have e : (if j < i then j else i) = min i j := by
    by_cases l : j < i
    · rw [if_pos l]; omega
    · rw [if_neg l]; omega
  rw [e]; exact h⟩
theorem z_max2 {i j : Int} (h : Q (.int (max i j)) H) : rMax2 [.int i, .int j] H Q := ⟨i, j, rfl, by
  have e : (if j > i then j else i) = max i j := by
    by_cases l : j > i
    · rw [if_pos l]; omega
    · rw [if_neg l]; omega
  rw [e]; exact h⟩
end

section
variable {K : PySem.W.Frag} {H : Hp} {Q : VK} {a b : Bool}
theorem z_eqB (h : Q (.bl (decide (a = b))) H) : rEqZ K (.bl a) (.bl b) H Q := .inl ⟨rfl, by
  have e : decide (V.bl a = V.bl b) = decide (a = b) := by simp
  rw [e]; exact h⟩
theorem z_neB (h : Q (.bl (!decide (a = b))) H) : rNeZ K (.bl a) (.bl b) H Q := .inl ⟨rfl, by
  have e : decide (V.bl a = V.bl b) = decide (a = b) := by simp
  rw [e]; exact h⟩
end

/-! ## Objects of one's own classes -/
def rFld (K : PySem.W.Frag) (f : Str) (x : V) (H : Hp) (Q : VK) : Prop := ∃ a C dx fs v, x = .ref a ∧ H a = some (.ins C dx fs) ∧ Cls K C ∧ NoAttr K C f ∧ fs.lookup f = some v ∧ Q v H
def wFld (K : PySem.W.Frag) (f : Str) (x y : V) (H : Hp) (R : Hp → Prop) : Prop := ∃ a C dx fs, x = .ref a ∧ H a = some (.ins C dx fs) ∧ Cls K C ∧ NoAttr K C f ∧ fs.length < 1000 ∧ R (upd H a (.ins C dx (putF f y fs)))
def aFld (a C : Addr) (f : Str) (z : V) (H : Hp) (R : Hp → Prop) : Prop := ∃ dx fs, H a = some (.ins C dx fs) ∧ fs.length < 1000 ∧ R (upd H a (.ins C dx (putF f z fs)))
def bFld (K : PySem.W.Frag) (f : Str) (x : V) (H : Hp) (R : Addr → Addr → V → Hp → Prop) : Prop := ∃ a C dx fs v, x = .ref a ∧ H a = some (.ins C dx fs) ∧ Cls K C ∧ NoAttr K C f ∧ fs.lookup f = some v ∧ R a C v H
section
variable {K : PySem.W.Frag} {σ : St} {H : Hp} {nx bk ct : St → Hp → Prop} {rt : VK} {ta tv : TE} {Q : VK} {f : Str}
theorem z_fld (h : ta σ H fun x H1 => rFld K f x H1 Q) : tFld K ta f σ H Q := h
theorem z_sfld (h : tv σ H fun y H1 => ta σ H1 fun x H2 => wFld K f x y H2 fun H3 => nx σ H3) : sFld K ta tv f ⟨nx, rt, bk, ct⟩ σ H := h
theorem z_sfldA {rd : V → V → Hp → VK → Prop} (h : ta σ H fun x H1 => bFld K f x H1 fun a C v H1 => tv σ H1 fun y H2 => rd v y H2 fun z H3 => aFld a C f z H3 fun H4 => nx σ H4) : sFldAug K ta tv rd f ⟨nx, rt, bk, ct⟩ σ H := h
theorem z_rAdd {i j : Int} (h : Q (.int (i + j)) H) : rAdd (.int i) (.int j) H Q := ⟨i, j, rfl, rfl, h⟩
theorem z_rSub {i j : Int} (h : Q (.int (i - j)) H) : rSub (.int i) (.int j) H Q := ⟨i, j, rfl, rfl, h⟩
theorem lkf_hd {k : Str} {v : V} {r : List (Str × V)} : List.lookup k ((k, v) :: r) = some v := by simp [List.lookup]
theorem lkf_tl {k g : Str} {v : V} {r : List (Str × V)} {o : Option V} (h : (k == g) = false) (e : List.lookup k r = o) : List.lookup k ((g, v) :: r) = o := by simp only [List.lookup, h]; exact e
theorem lkf_nil {k : Str} : List.lookup k ([] : List (Str × V)) = none := rfl
theorem ptf_hd {k : Str} {v u : V} {r : List (Str × V)} : putF k v ((k, u) :: r) = (k, v) :: r := if_pos rfl
theorem ptf_tl {k g : Str} {v u : V} {r r' : List (Str × V)} (h : ¬ g = k) (e : putF k v r = r') : putF k v ((g, u) :: r) = (g, u) :: r' := by rw [← e]; exact if_neg h
theorem ptf_nil {k : Str} {v : V} : putF k v [] = [(k, v)] := rfl
/-- methods -/
def rMeth (C : Addr) (m : Str) (R : V → Hp → Prop) (x : V) (H : Hp) : Prop := ∃ a dx fs, x = .ref a ∧ H a = some (.ins C dx fs) ∧ fs.lookup m = none ∧ R x H
def tMethZ (C : Addr) (m : Str) (sp : Sp) (dvs : List V) (E : XK) (ta : TE) (t : TA) : TE := fun σ H Q => ta σ H fun x H1 => rMeth C m (fun x H1 => t σ H1 fun vs H2 => sp (x :: (vs ++ dvs)) H2 Q E) x H1
theorem z_meth {C : Addr} {m : Str} {sp : Sp} {E : XK} {t : TA} (h : ta σ H fun x H1 => rMeth C m (fun x H1 => t σ H1 fun vs H2 => sp (x :: (vs ++ [])) H2 Q E) x H1) : tMeth C m sp [] E ta t σ H Q := h
theorem z_methR {C a dx : Addr} {m : Str} {fs : List (Str × V)} {R : V → Hp → Prop} (ho : H a = some (.ins C dx fs)) (hl : fs.lookup m = none) (h : R (.ref a) H) : rMeth C m R (.ref a) H := ⟨a, dx, fs, rfl, ho, hl, h⟩
def rMake (C : Addr) (sp : Sp) (E : XK) (dvs : List V) (Q : VK) (vs : List V) (H1 : Hp) : Prop := ∀ x dx, H1 x = none → H1 dx = none → dx ≠ x →
  sp (.ref x :: (vs ++ dvs)) (upd (upd H1 dx (.own x)) x (.ins C dx [])) (fun v H2 => v = .non ∧ Q (.ref x) H2) E
theorem z_make {C : Addr} {sp : Sp} {E : XK} {t : TA} {dvs : List V} (h : t σ H fun vs H1 => rMake C sp E dvs Q vs H1) : tMake C sp dvs E t σ H Q := h
end
section
variable {X : Cx} {CX : CXT} {k : Nat} {f C : Addr} {fd : FuncData} {ps : List Str} {sp : Sp} {E : XK} {x m : Str} {p pos apos : Pos} {e o : Expr} {es : List Expr} {ta : TE} {t : TA}
theorem pe_methZ {pl : Sem Bool} (he : PE X o ta) (c : Cls X.K C) (hm : Meth X.K C m f) (F : FnOk X.prog X.w X.K X.mg X.base CX k f fd ps sp) (hr : Room k X.A) (hb : Binds X.K fd ps []) (hx : Passes CX X E) (ha : PA X (e :: es) t)
    (hst : starEach (e :: es) X.env = (false, eval e X.env) :: starEach es X.env := by rfl) (hpl : (backTo pos (starEach es X.env)).any (·.1) = false := by rfl)
    (ht : eval (.Call (.Attribute o m apos) (e :: es) [] pos) X.env = (do
      let ov ← eval o X.env
      standAt apos.atName
      let (f, first) ← holding [ov] (getMethod ov m pl)
      callWith pos f first (backTo pos (starEach (e :: es) X.env)) (backToKw pos (keywordEach [] X.env))) := by rfl) :
    PE X (.Call (.Attribute o m apos) (e :: es) [] pos) (tMeth C m sp [] E ta t) := pe_meth (pl := pl) he c hm F hr hb .nil hx ha hst hpl ht
theorem pe_meth0Z {pl : Sem Bool} (he : PE X o ta) (c : Cls X.K C) (hm : Meth X.K C m f) (F : FnOk X.prog X.w X.K X.mg X.base CX k f fd ps sp) (hr : Room k X.A) (hb : Binds X.K fd ps []) (hx : Passes CX X E)
    (ht : eval (.Call (.Attribute o m apos) [] [] pos) X.env = (do
      let ov ← eval o X.env
      standAt apos.atName
      let (f, first) ← holding [ov] (getMethod ov m pl)
      callWith pos f first (backTo pos (starEach [] X.env)) (backToKw pos (keywordEach [] X.env))) := by rfl) :
    PE X (.Call (.Attribute o m apos) [] [] pos) (tMeth C m sp [] E ta tNil) := pe_meth0 (pl := pl) he c hm F hr hb .nil hx ht
theorem ps_fldZ {K : PySem.W.Frag} {value : Expr} {f : Str} {pos' : Pos} {tv : TE} (hK : X.K = K) (ha : PE X o ta) (hv : PE X value tv) (hs : swapsWith value (some (.Attribute o f pos')) pos.line X.env = pure false) : PS X (.Assign [.Attribute o f pos'] value pos) (sFld K ta tv f) := by subst hK; exact ps_fld ha hv hs
theorem ps_fldaugZ {K : PySem.W.Frag} {value : Expr} {f : Str} {tpos : Pos} {tv : TE} {op : Operator} {rd : V → V → Hp → VK → Prop} (hK : X.K = K) (ha : PE X o ta) (hv : PE X value tv) (hop : InOp X op rd) : PS X (.AugAssign (.Attribute o f tpos) op value pos) (sFldAug K ta tv rd f) := by subst hK; exact ps_fldaug ha hv hop
end
/-! ## Plain loops, a range by steps -/
section
variable {K : PySem.W.Frag} {σ : St} {H H0 : Hp} {nx bk ct : St → Hp → Prop} {rt : VK} {tb : TS} {g : TG} {a : Addr} {xs : List V} {tr : TA} {te : TE}
theorem z_pforR1 (h : tr σ H fun vs H1 => ∃ n : Int, vs = [.int n] ∧ -(2 ^ 62) ≤ n ∧ n < 2 ^ 62 ∧ ForZ (Itr 0 n.toNat) g tb ⟨nx, rt, bk, ct⟩ σ H1) : tFor (iRng1 tr) g tb ⟨nx, rt, bk, ct⟩ σ H := h
theorem z_pforR3 (h : tr σ H fun vs H1 => ∃ (i j c : Int) (n : Nat), vs = [.int i, .int j, .int c] ∧ RgC i j c n ∧ ForZ (Itc i c n) g tb ⟨nx, rt, bk, ct⟩ σ H1) : tFor (iRng3 tr) g tb ⟨nx, rt, bk, ct⟩ σ H := h
theorem z_forR3 (h : tr σ H fun vs H1 => ∃ (i j c : Int) (n : Nat), vs = [.int i, .int j, .int c] ∧ RgC i j c n ∧ ForZ (Itc i c n) g (sGcE H tb) ⟨nx, rt, bk, ct⟩ σ H1) : tForZ (iRng3 tr) g tb ⟨nx, rt, bk, ct⟩ σ H := h
theorem z_pforL (h : te σ H fun x H1 => ∃ a, x = .ref a ∧ (∃ xs, SqL K H1 a xs) ∧ ForZ (Itl K a) g tb ⟨nx, rt, bk, ct⟩ σ H1) : tFor (iList K te) g tb ⟨nx, rt, bk, ct⟩ σ H := h
theorem p_range {lo : Int} {n : Nat} (Pv : Nat → St → Hp → Prop) (h0 : Pv 0 σ H)
    (hs : ∀ i σ H, i < n → Pv i σ H → g (.int (lo + i)) σ H fun σ2 H2 => tb ⟨Pv (i + 1), rt, nx, Pv (i + 1)⟩ σ2 H2) (hd : ∀ σ H, Pv n σ H → nx σ H) : ForZ (Itr lo n) g tb ⟨nx, rt, bk, ct⟩ σ H := for_range (D := ⟨nx, rt, bk, ct⟩) (tb := tb) Pv h0 hs hd
theorem p_rangeC {lo c : Int} {n : Nat} (Pv : Nat → St → Hp → Prop) (h0 : Pv 0 σ H)
    (hs : ∀ i σ H, i < n → Pv i σ H → g (.int (lo + (i : Nat) * c)) σ H fun σ2 H2 => tb ⟨Pv (i + 1), rt, nx, Pv (i + 1)⟩ σ2 H2) (hd : ∀ σ H, Pv n σ H → nx σ H) : ForZ (Itc lo c n) g tb ⟨nx, rt, bk, ct⟩ σ H := for_rangeC (D := ⟨nx, rt, bk, ct⟩) (tb := tb) Pv h0 hs hd
theorem f_rangeC {lo c : Int} {n : Nat} (Pv : Nat → St → Hp → Prop) (h0 : Pv 0 σ H)
    (hs : ∀ i σ H, i < n → Pv i σ H → g (.int (lo + (i : Nat) * c)) σ H fun σ2 H2 => tb ⟨fun σ' H' => ∃ G, Gc H0 H' G ∧ Pv (i + 1) σ' G, fun v H' => ∃ G, Gc H0 H' G ∧ rt v G, fun σ' H' => ∃ G, Gc H0 H' G ∧ nx σ' G, fun σ' H' => ∃ G, Gc H0 H' G ∧ Pv (i + 1) σ' G⟩ σ2 H2) (hd : ∀ σ H, Pv n σ H → nx σ H) : ForZ (Itc lo c n) g (sGcE H0 tb) ⟨nx, rt, bk, ct⟩ σ H := for_rangeC (D := ⟨nx, rt, bk, ct⟩) (tb := sGcE H0 tb) Pv h0 hs hd
theorem z_rn3d {R : Int → Int → Int → Nat → Prop} {m n : Int} (h0 : -(2 ^ 62) ≤ m) (h1 : m < 2 ^ 62) (h2 : -(2 ^ 62) ≤ n) (h3 : n < 2 ^ 62) (h : R m n (-1) (m - n).toNat) : ∃ (i j c : Int) (k : Nat), [V.int m, V.int n, V.int (-1)] = [V.int i, V.int j, V.int c] ∧ RgC i j c k ∧ R i j c k :=
  ⟨m, n, -1, _, rfl, RgC.neg h0 h1 h2 h3, h⟩
theorem p_list (Pv : Nat → St → Hp → Prop) (h0 : Pv 0 σ H) (hl : ∀ i σ H, i ≤ xs.length → Pv i σ H → SqL K H a xs)
    (hs : ∀ i x σ H, xs[i]? = some x → Pv i σ H → g x σ H fun σ2 H2 => tb ⟨Pv (i + 1), rt, nx, Pv (i + 1)⟩ σ2 H2) (hd : ∀ σ H, Pv xs.length σ H → nx σ H) : ForZ (Itl K a) g tb ⟨nx, rt, bk, ct⟩ σ H := for_list (D := ⟨nx, rt, bk, ct⟩) (tb := tb) Pv h0 hl hs hd
end
/-! ## Dicts with written keys -/
def rDGet (x y : V) (H : Hp) (Q : VK) : Prop := ∃ a v, x = .ref a ∧ DGet H a y (some v) ∧ Q v H
def rDPut (x y v : V) (H : Hp) (R : Hp → Prop) : Prop := ∃ a H4, x = .ref a ∧ DPut H a y v H4 ∧ R H4
section
variable {σ : St} {H : Hp} {nx bk ct : St → Hp → Prop} {rt : VK} {td ty tv : TE} {Q : VK} {a : Addr} {kvs : List (Key × V)} {v : V} {s : Str} {R : Hp → Prop}
theorem z_dget (h : td σ H fun x H1 => ty σ H1 fun y H2 => rDGet x y H2 Q) : tDGet td ty σ H Q := h
theorem z_dput (h : tv σ H fun v H1 => td σ H1 fun x H2 => ty σ H2 fun y H3 => rDPut x y v H3 fun H4 => nx σ H4) : sDPut td ty tv ⟨nx, rt, bk, ct⟩ σ H := h
theorem z_dgetS (ha : H a = some (.dK kvs)) (e : valV kvs (Sum.inr s) = some v) (h : Q v H) : rDGet (.ref a) (.str s) H Q := ⟨a, v, rfl, e ▸ DGet.k (k := Sum.inr s) ha, h⟩
theorem z_dgetI {i : Int} (ha : H a = some (.dK kvs)) (e : valV kvs (Sum.inl i) = some v) (h : Q v H) : rDGet (.ref a) (.int i) H Q := ⟨a, v, rfl, e ▸ DGet.k (k := Sum.inl i) ha, h⟩
theorem z_dputS (ha : H a = some (.dK kvs)) (hz : kvs.length < sizeLine) (h : R (upd H a (.dK (putK kvs (Sum.inr s) v)))) : rDPut (.ref a) (.str s) v H R := ⟨a, _, rfl, DPut.k (k := Sum.inr s) ha hz, h⟩
theorem z_dputI {i : Int} (ha : H a = some (.dK kvs)) (hz : kvs.length < sizeLine) (h : R (upd H a (.dK (putK kvs (Sum.inl i) v)))) : rDPut (.ref a) (.int i) v H R := ⟨a, _, rfl, DPut.k (k := Sum.inl i) ha hz, h⟩
end
section
variable {X : Cx} {K : PySem.W.Frag} {H : Hp} {Q : VK}
/-- is, is not: with None, of two truth values -/
def rIsZ : R2 := fun x y H Q => y = .non ∧ Q (.bl (decide (x = .non))) H
def rIsnZ : R2 := fun x y H Q => y = .non ∧ Q (.bl (!decide (x = .non))) H
theorem op_isZ : OpR X (compareOp .Is) rIsZ := op_isN
theorem op_isnZ : OpR X (compareOp .IsNot) rIsnZ := op_notN
theorem z_isN (h : Q (.bl true) H) : rIsZ .non .non H Q := ⟨rfl, h⟩
theorem z_isnN (h : Q (.bl false) H) : rIsnZ .non .non H Q := ⟨rfl, h⟩
theorem z_isNr {a : Addr} (h : Q (.bl false) H) : rIsZ (.ref a) .non H Q := ⟨rfl, h⟩
theorem z_isnNr {a : Addr} (h : Q (.bl true) H) : rIsnZ (.ref a) .non H Q := ⟨rfl, h⟩
theorem z_isNi {i : Int} (h : Q (.bl false) H) : rIsZ (.int i) .non H Q := ⟨rfl, h⟩
theorem z_isnNi {i : Int} (h : Q (.bl true) H) : rIsnZ (.int i) .non H Q := ⟨rfl, h⟩
end

section
variable {K : PySem.W.Frag} {σ : St} {H : Hp} {Q : St → Hp → Prop} {QV : VK} {a : Addr} {xs : List V} {v : V} {n : Nat} {t : TG} {u : TGs}
theorem z_gtup (ha : SqT K H a xs) (hl : xs.length = n) (h : u xs σ H Q) : gTup K n u (.ref a) σ H Q := ⟨a, xs, rfl, ha, hl, h⟩
theorem z_gcons {r : List V} (h : t v σ H fun σ' H' => u r σ' H' Q) : gCons t u (v :: r) σ H Q := ⟨v, r, rfl, h⟩
theorem z_gnil (h : Q σ H) : gNil [] σ H Q := ⟨rfl, h⟩
theorem st_new {p : Addr} {o : HO} (hp : H p = none) (h : SqT K H a xs) : SqT K (upd H p o) a xs := by
  rcases h with (h | ⟨ob, h⟩) | h
  · exact .inl (.inl (by rw [upd_ne (ne_of_none h hp)]; exact h))
  · exact .inl (.inr ⟨ob, by rw [upd_ne (ne_of_none h hp)]; exact h⟩)
  · exact .inr h
theorem z_allT {α : Type} {ys : List α} (ha : SqL K H a (ys.map fun _ => V.bl true)) (h : QV (.bl true) H) : rAll K [.ref a] H QV := by
  refine ⟨a, ys.map fun _ => true, rfl, by rw [List.map_map]; exact ha, ?_⟩
  have e : (ys.map fun _ => true).all id = true := by simp
  rw [e]; exact h
theorem z_all {bs : List Bool} (ha : SqL K H a (bs.map V.bl)) (h : QV (.bl (bs.all id)) H) : rAll K [.ref a] H QV := ⟨a, bs, rfl, ha, h⟩
theorem z_any {bs : List Bool} (ha : SqL K H a (bs.map V.bl)) (h : QV (.bl (bs.any id)) H) : rAny K [.ref a] H QV := ⟨a, bs, rfl, ha, h⟩
end

section
variable {H : Hp} {a b : Addr} {o o' u : HO}
theorem upd_self (h : H a = some o) : upd H a o = H := by
  funext b
  unfold upd
  by_cases e : b = a
  · subst e; simp [h]
  · simp [e]
theorem upd_swap (h : a ≠ b) : upd (upd (upd H a o) b u) a o' = upd (upd H a o') b u := by
  rw [upd_comm h, upd_upd, upd_comm h.symm]
theorem get_ne (h : b ≠ a) (e : H b = some u) : upd H a o b = some u := by rw [upd_ne h]; exact e
end

theorem cshl {N M j : Nat} (h : N < 2 ^ M) (hz : M + j ≤ 100000000) : CShl (N : Int) (j : Int) := ⟨by omega, by
  have := PyProof.Rows.intBits_le (a := (N : Int)) (k := M) (by rw [Int.natAbs_natCast]; exact h)
  omega⟩

theorem gc_tup {H H0 H1 : Hp} {p : Addr} {xs : List V} (b : Bs H H0) (s : Sx H H1) (hp : H1 p = none) : Gc H0 (upd H1 p (.tup xs)) (upd H p (.tup xs)) where
  sub := fun a o e => by
    by_cases q : a = p
    · subst q; rw [upd_same] at e ⊢; exact e
    · rw [upd_ne q] at e ⊢; exact s.same a o e
  ok := fun a o e => by
    by_cases q : a = p
    · subst q; rw [upd_same] at e; cases e; exact .inl trivial
    · rw [upd_ne q] at e
      refine .inr ⟨b.same a o e, fun c hc => ?_⟩
      have h1 := b.back c _ hc rfl
      rw [upd_ne (ne_of_none h1 (s.same.free hp))]
      exact h1
  keep := fun c u e k => by
    have h1 := b.back c u e (kept_loose k)
    rw [upd_ne (ne_of_none h1 (s.same.free hp))]
    exact h1
  dt := .inr fun c ys e => by
    by_cases q : c = p
    · subst q; rw [upd_same] at e ⊢; exact e
    · rw [upd_ne q] at e ⊢; exact s.nt c ys e
theorem and255 (X t : Nat) : Builtin.bitAnd ((X : Int) / 2 ^ t) 255 = ((X / 2 ^ t % 256 : Nat) : Int) := by
  have e1 : ((X : Int) / 2 ^ t) = ((X / 2 ^ t : Nat) : Int) := by
    rw [Int.natCast_ediv]
    first | done | (congr 1; exact PyProof.Rows.two_pow_cast _) | simp
  have e2 : Builtin.bitAnd ((X / 2 ^ t : Nat) : Int) 255 = ((X / 2 ^ t &&& 255 : Nat) : Int) := and_nat _ 255
  have e3 := Nat.and_two_pow_sub_one_eq_mod (X / 2 ^ t) 8
  rw [show (2 ^ 8 - 1 : Nat) = 255 from rfl] at e3
  rw [e1, e2, e3]
theorem shl_nat (N j : Nat) : (N : Int) * 2 ^ ((j : Int)).toNat = ((N * 2 ^ j : Nat) : Int) := by rw [Int.toNat_natCast, PyProof.Rows.two_pow_cast, Int.natCast_mul]

theorem z_setV {H : Hp} {a : Addr} {xs : List V} {i : Int} {v : V} {R : Hp → Prop} (ha : H a = some (.lst xs)) (h0 : 0 ≤ i) (h1 : i < xs.length) (h : R (upd H a (.lst (xs.set i.toNat v)))) : rSetL (.ref a) (.int i) v H R :=
  ⟨a, _, i, i.toNat, rfl, rfl, ha, by unfold ixN; rw [if_pos h0, if_pos h1], h⟩

section
variable {σ : St} {H : Hp} {Q : VK} {tk tv : TE} {r : List (TE × TE)} {QP : List (V × V) → Hp → Prop}
theorem z_disp {trs : List (TE × TE)} (h : ∀ p, H p = none → tPairs trs σ (upd H p (.dK [])) fun ps H2 => H2 p = some (.dK []) ∧ ∃ kvs : List (Key × V), ps = kvs.map (fun kv => (kV kv.1, kv.2)) ∧ kvs.length ≤ 15 ∧ Q (.ref p) (upd H2 p (.dK (mergeK [] kvs)))) : tDisp trs σ H Q := h
theorem z_pcons (h : tk σ H fun x H1 => tv σ H1 fun y H2 => tPairs r σ H2 fun ps H3 => QP ((x, y) :: ps) H3) : tPairs ((tk, tv) :: r) σ H QP := h
theorem z_pnil (h : QP [] H) : tPairs [] σ H QP := h
end

theorem p_ints {K : PySem.W.Frag} {σ : St} {H : Hp} {nx bk ct : St → Hp → Prop} {rt : VK} {tb : TS} {g : TG} {a : Addr} {ns : List Int} (Pv : Nat → St → Hp → Prop) (h0 : Pv 0 σ H) (hl : ∀ i σ H, i ≤ ns.length → Pv i σ H → SqL K H a (ns.map V.int))
    (hs : ∀ (i : Nat) (n : Int) σ H, ns[i]? = some n → Pv i σ H → g (.int n) σ H fun σ2 H2 => tb ⟨Pv (i + 1), rt, nx, Pv (i + 1)⟩ σ2 H2) (hd : ∀ σ H, Pv ns.length σ H → nx σ H) : ForZ (Itl K a) g tb ⟨nx, rt, bk, ct⟩ σ H :=
  p_list (xs := ns.map V.int) Pv h0 (fun i σ H hi => hl i σ H (by rw [List.length_map] at hi; exact hi)) (fun i x σ H hx p => by
    rw [List.getElem?_map] at hx
    cases e : ns[i]? with
    | none => rw [e] at hx; cases hx
    | some n => rw [e] at hx; cases hx; exact hs i n σ H e p) (fun σ H p => hd σ H (by rw [List.length_map] at p; exact p))

/-! ## defs with defaults -/
section
variable {P : Program} {w : World} {K : PySem.W.Frag} {mg : Str → Option Value} {base : Heap}
theorem fd_ok {x qual : Str} {st : Stmt} {f : Addr} {fd : FuncData} {N ps : List Str} {k : Nat} {sp : Sp} {dvs : List V} (F : FunD K x qual (defArgs st) (defBody st) (defScope st) dvs [] f fd) (S : FnScope N ps (defScope st)) (len : ∀ vs H Q E, sp vs H Q E → vs.length = ps.length)
    (hbody : ∀ (cdv : Value) (A : Around) (outer : List Env) (s : Shared) (H : Hp) (vs : List V) (Q : VK) (E : XK), Room k (A.deeper (PyProof.Rows.envOfC qual (defScope st) s.heap.objs.size f cdv)) → sp vs H Q E →
      ∃ t, PSs (cxOf CX0 P w K mg base N qual (defScope st) f cdv A outer s H E).nox (defBody st) t ∧ t { nx := fun _ H' => Q .non H', rt := Q } (start N vs) H) : FnOk P w K mg base CX0 (k + 1) f fd ps sp := by
  obtain ⟨oc, od, dV, kV, doc, pm, an, cdv, ct, osl, rfl, lk, hcd, _, _⟩ := F.ex
  refine fn_of lk hcd S len fun A outer s H vs Q E hr hsp => ?_
  obtain ⟨t, h, q⟩ := hbody cdv A outer s H vs Q E hr hsp
  exact ⟨t, h.nox, q⟩
theorem fd_mk {x qual : Str} {st : Stmt} {f T : Addr} {oc : Value} {od an : Option Addr} {osl : Array (Option Value)} {kV doc pm cdv ct : Value} {o : Obj} {its : List Value} {n : Nat} {dvs : List V} (l : K.lookup f = some ⟨oc, od, .func (PySem.W.fnOf x qual (defArgs st) (defBody st) (defScope st) (.ref T) kV doc pm an cdv ct), osl⟩)
    (c : PySem.W.codeIn K cdv qual = true) (k : PySem.W.keepIn K (.ref f) = true) (lt : K.lookup T = some o) (ot : o.data = .seq its.toArray n) (r : Vals dvs its) (hd : dvs ≠ []) :
    FunD K x qual (defArgs st) (defBody st) (defScope st) dvs [] f (PySem.W.fnOf x qual (defArgs st) (defBody st) (defScope st) (.ref T) kV doc pm an cdv ct) :=
  ⟨⟨oc, od, _, kV, doc, pm, an, cdv, ct, osl, rfl, l, c, Or.inr ⟨hd, T, o, its, n, rfl, lt, ot, r⟩, Or.inl rfl⟩, k⟩
end
/-- C(.., k = v): as rMake -/
def rMakeN (C : Addr) (n m : Nat) (sp : Sp) (gV : List V → List V → List V) (E : XK) (Q : VK) (vs zs : List V) (H2 : Hp) : Prop := vs.length = n ∧ zs.length = m ∧
  ∀ x dx, H2 x = none → H2 dx = none → dx ≠ x → sp (gV (.ref x :: vs) zs) (upd (upd H2 dx (.own x)) x (.ins C dx [])) (fun v H3 => v = .non ∧ Q (.ref x) H3) E
theorem z_makeN {C : Addr} {n m : Nat} {sp : Sp} {gV : List V → List V → List V} {E : XK} {t tk : TA} {σ : St} {H : Hp} {Q : VK} (h : t σ H fun vs H1 => tk σ H1 fun zs H2 => rMakeN C n m sp gV E Q vs zs H2) : tMakeN C n m sp gV E t tk σ H Q := h
/-! ## membership, reversing -/
theorem op_inZ {X : Cx} {K : PySem.W.Frag} (hK : X.K = K) : OpR X (compareOp .In) (rIn K false) := by rw [← hK]; exact op_in_seq
theorem z_inB {K : PySem.W.Frag} {H : Hp} {Q : VK} {b : Bool} {p : Addr} {xs : List V} (hp : SqL K H p xs) (hf : xs.all flatV = true) (h : Q (.bl (inV (.bl b) xs)) H) : rIn K false (.bl b) (.ref p) H Q := ⟨p, xs, rfl, Or.inl hp, rfl, hf, h⟩
theorem z_inI {K : PySem.W.Frag} {H : Hp} {Q : VK} {i : Int} {p : Addr} {xs : List V} (hp : SqL K H p xs) (hf : xs.all flatV = true) (h : Q (.bl (inV (.int i) xs)) H) : rIn K false (.int i) (.ref p) H Q := ⟨p, xs, rfl, Or.inl hp, rfl, hf, h⟩
theorem z_rev {H : Hp} {Q : VK} {l : Addr} {xs : List V} (hl : H l = some (.lst xs)) (h : Q .non (upd H l (.lst xs.reverse))) : rReverse (.ref l) [] H Q := ⟨l, xs, rfl, rfl, hl, h⟩
/-! ## a statement whose ways meet again -/
def sJ (t : TS) : TS := t
theorem ps_J {X : Cx} {st : Stmt} {t : TS} (h : PS X st t) : PS X st (sJ t) := h
theorem z_J {t : TS} {nx bk ct : St → Hp → Prop} {rt : VK} {σ : St} {H : Hp} (R : St → Hp → Prop) (h1 : ∀ N : St → Hp → Prop, (∀ σ' H', R σ' H' → N σ' H') → t ⟨N, rt, bk, ct⟩ σ H) (h2 : ∀ σ' H', R σ' H' → nx σ' H') : sJ t ⟨nx, rt, bk, ct⟩ σ H := h1 nx h2
end Z


-- side questions
local macro_rules | `(tactic| walk_at "sd") => `(tactic| first
  | omega | assumption | (show (_ : Nat) ≤ 16777216; simp; done) | decide | exact Or.inr ⟨by omega, by omega⟩ | exact Or.inl ⟨by omega, by omega⟩ | exact ⟨by omega, by omega⟩ | exact ⟨by omega, by omega, by omega⟩ | exact ⟨by omega, by omega, by decide⟩ | exact Z.shl_pos)
-- what stands at an address
local macro_rules | `(tactic| walk_at "lk") => `(tactic| first
  | assumption | exact L2.upd_same
  | (apply L2.SqL.of; walk_at "lk")
  | (apply Z.get_new; (focus (· assumption)); walk_at "lk")
  | (apply Z.get_ne; (focus (· assumption)); walk_at "lk")
  | (apply Z.sq_new; (focus (· assumption)); walk_at "lk")
  | (apply L2.SqT.of; walk_at "lk")
  | (apply Z.st_new; (focus (· assumption)); walk_at "lk"))
-- a heap that has only grown
local macro_rules | `(tactic| walk_at "sx") => `(tactic| first
  | exact Z.sx_refl | assumption
  | ((refine Z.sx_new ?_ ?_ rfl); (focus (· walk_at "sx")); assumption)
  | ((refine Z.sx_up ?_ ?_ rfl); (focus (· walk_at "sx")); assumption))
local macro_rules | `(tactic| walk_at "bs") => `(tactic| first
  | exact Z.bs_refl | assumption
  | ((refine Z.bs_new ?_ ?_ rfl); (focus (· walk_at "bs")); assumption)
  | ((refine Z.bs_up ?_ ?_ rfl); (focus (· walk_at "bs")); assumption))
-- back to a base heap with one thing more
local macro_rules | `(tactic| walk_at "g1") => `(tactic| (refine Z.z_gc (Z.gc_one (by walk_at "bs") (by walk_at "sx") (by walk_at "lk")) ?_))
local macro_rules | `(tactic| walk_at "g0") => `(tactic| (refine Z.z_gc (Z.gc_bs (by walk_at "bs") (by walk_at "sx")) ?_))
-- one step of a reading
local macro_rules | `(tactic| walk_at "z1") => `(tactic| first
  | ((with_reducible apply Z.z_seqS); (focus (· first | (dsimp only [List.set]; done) | (dsimp only [List.set]; exact rfl))))
  | with_reducible refine Z.z_seq ?_
  | with_reducible refine Z.z_asg ?_
  | ((with_reducible show L2.tVar _ _ _ _); refine Z.z_var rfl ?_)
  | with_reducible refine Z.z_c ?_
  | with_reducible refine Z.z_op ?_
  | with_reducible refine Z.z_addI ?_
  | with_reducible refine Z.z_I0 ?_
  | ((with_reducible refine Z.z_I ?_ ?_); (focus (· walk_at "sd")))
  | ((with_reducible refine Z.z_mulI ?_ ?_); (focus (· walk_at "sd")))
  | with_reducible refine Z.z_eqI ?_
  | with_reducible refine Z.z_neI ?_
  | with_reducible refine Z.z_bl ?_
  | with_reducible refine Z.z_tst ?_
  | with_reducible refine Z.z_ifS ?_
  | with_reducible refine Z.z_and ?_
  | with_reducible refine Z.z_or ?_
  | with_reducible refine Z.z_not ?_
  | with_reducible refine Z.z_andV ?_
  | with_reducible refine Z.z_orV ?_
  | with_reducible refine Z.z_notV ?_
  | with_reducible refine Z.z_iT ?_
  | with_reducible refine Z.z_iF ?_
  | with_reducible refine Z.z_inT ?_
  | with_reducible refine Z.z_inF ?_
  | with_reducible refine Z.z_truZ ?_
  | with_reducible refine Z.z_truB ?_
  | with_reducible refine Z.z_truI ?_
  | with_reducible refine Z.z_ret ?_
  | with_reducible refine Z.z_call ?_
  | with_reducible refine Z.z_cons ?_
  | with_reducible refine Z.z_nil ?_
  | with_reducible refine Z.z_cb ?_
  | with_reducible refine Z.z_next ?_
  | with_reducible refine Z.z_drop ?_
  | with_reducible refine Z.z_sgc ?_
  | with_reducible refine Z.z_tgc ?_
  | with_reducible refine Z.z_ugc ?_
  | with_reducible refine Z.z_tB ?_
  | with_reducible refine Z.z_ifE ?_
  | with_reducible refine Z.z_chain ?_
  | with_reducible refine Z.z_lst ?_
  | with_reducible refine Z.z_tup ?_
  | with_reducible refine Z.z_sl ?_
  | with_reducible refine Z.z_nopart ?_
  | with_reducible refine Z.z_part ?_
  | with_reducible refine Z.z_int ?_
  | with_reducible refine Z.z_un ?_
  | with_reducible refine Z.z_rU ?_
  | with_reducible refine Z.z_asgS ?_
  | with_reducible refine Z.z_asgT ?_
  | with_reducible refine Z.z_retN ?_
  | ((with_reducible show L2.tAug _ _ _ _ _ _); refine Z.z_aug rfl ?_)
  | with_reducible refine Z.z_ipI ?_
  | with_reducible refine Z.z_brk ?_
  | with_reducible refine Z.z_cont ?_
  | with_reducible refine Z.z_forR1 ?_
  | with_reducible refine Z.z_forR2 ?_
  | with_reducible refine Z.z_forL ?_
  | with_reducible refine Z.z_forT ?_
  | with_reducible refine Z.z_forE ?_
  | with_reducible refine Z.z_lcR1 ?_
  | with_reducible refine Z.z_lcR2 ?_
  | with_reducible refine Z.z_lcL ?_
  | with_reducible refine Z.z_lcS ?_
  | ((with_reducible refine Z.z_rn1 ?_ ?_ ?_); (focus (· walk_at "sd")); (focus (· walk_at "sd")))
  | ((with_reducible refine Z.z_rn2 ?_ ?_); (focus (· walk_at "sd")))
  | (with_reducible refine Z.z_gn ?_; dsimp only [List.set])
  | with_reducible refine Z.z_gc0 ?_
  | with_reducible refine Z.z_ifR ?_
  | with_reducible refine Z.z_ifnR ?_
  | with_reducible refine Z.z_bm ?_
  | with_reducible refine Z.z_pcons ?_
  | with_reducible refine Z.z_pnil ?_
  | ((with_reducible refine Z.z_ifY ?_ ?_); (focus (· omega)))
  | ((with_reducible refine Z.z_ifN ?_ ?_); (focus (· omega)))
  | with_reducible refine Z.z_fld ?_
  | with_reducible refine Z.z_sfld ?_
  | with_reducible refine Z.z_sfldA ?_
  | with_reducible refine Z.z_meth ?_
  | with_reducible refine Z.z_make ?_
  | with_reducible refine Z.z_makeN ?_
  | with_reducible refine Z.z_rAdd ?_
  | with_reducible refine Z.z_rSub ?_
  | with_reducible refine Z.z_dget ?_
  | with_reducible refine Z.z_dput ?_
  | with_reducible refine Z.z_pforR1 ?_
  | with_reducible refine Z.z_pforR3 ?_
  | with_reducible refine Z.z_forR3 ?_
  | with_reducible refine Z.z_pforL ?_
  | with_reducible refine Z.z_isN ?_
  | with_reducible refine Z.z_isnN ?_
  | with_reducible refine Z.z_isNr ?_
  | with_reducible refine Z.z_isnNr ?_
  | with_reducible refine Z.z_isNi ?_
  | with_reducible refine Z.z_isnNi ?_
  | with_reducible refine Z.z_gcons ?_
  | with_reducible refine Z.z_gnil ?_
  | ((with_reducible apply Z.z_gtup); (focus (· walk_at "lk")); (focus (· rfl)))
  | ((with_reducible refine Z.z_rn3d ?_ ?_ ?_ ?_ ?_); (focus (· walk_at "sd")); (focus (· walk_at "sd")); (focus (· walk_at "sd")); (focus (· walk_at "sd")))
  | with_reducible refine Z.z_eqB ?_
  | with_reducible refine Z.z_neB ?_
  | with_reducible refine Z.z_eqS ?_
  | with_reducible refine Z.z_neS ?_
  | with_reducible refine Z.z_min2 ?_
  | with_reducible refine Z.z_max2 ?_
  | with_reducible refine Z.z_bm0 ?_
  | ((with_reducible apply Z.z_tyL); (focus (· walk_at "lk")))
  | ((with_reducible apply Z.z_isiLL); (focus (· walk_at "lk")))
  | ((with_reducible apply Z.z_lenI); (focus (· walk_at "lk")))
  | ((with_reducible apply Z.z_ixI); (focus (· walk_at "lk")); (focus (· walk_at "sd")); (focus (· walk_at "sd")))
  | ((with_reducible apply Z.z_eqL); (focus (· walk_at "lk")); (focus (· walk_at "lk")))
  | ((with_reducible apply Z.z_neL); (focus (· walk_at "lk")); (focus (· walk_at "lk")))
  | with_reducible refine Z.z_isiII ?_
  | with_reducible refine Z.z_isiIB ?_
  | with_reducible refine Z.z_isiIL ?_
  | with_reducible refine Z.z_isiIS ?_
  | with_reducible refine Z.z_isiBI ?_
  | with_reducible refine Z.z_isiBB ?_
  | with_reducible refine Z.z_isiNI ?_
  | with_reducible refine Z.z_isiNL ?_
  | with_reducible refine Z.z_isiNS ?_
  | with_reducible refine Z.z_isiSS ?_
  | with_reducible refine Z.z_isiSI ?_
  | with_reducible refine Z.z_isiSL ?_)
local macro_rules | `(tactic| walk_at "z") => `(tactic| repeat (walk_at "z1"))
local macro_rules | `(tactic| walk_at "z0") => `(tactic| (dsimp only [Z.cx_K, L2.start, List.length_cons, List.length_nil, List.replicate, Nat.reduceSub, Nat.reduceAdd]; simp only [List.map_cons, List.map_nil, List.cons_append, List.nil_append]; walk_at "z"))

namespace K02
open PySem L2 Z
def top (i : Nat) : Stmt := PySem.Challenge.pw_tornshelf_k02_bits_read.main.body.getD i (.Pass ⟨0, 0, 0, 0⟩)
abbrev s_is_whole : Stmt := (top 5)
theorem sc_is_whole : FnScope ["thing"] ["thing"] (defScope s_is_whole) := ⟨rfl, rfl, rfl, by decide +kernel, rfl, by decide +kernel, by decide +kernel⟩
abbrev s_refuse_unless : Stmt := (top 6)
theorem sc_refuse_unless : FnScope ["good"] ["good"] (defScope s_refuse_unless) := ⟨rfl, rfl, rfl, by decide +kernel, rfl, by decide +kernel, by decide +kernel⟩
abbrev s_Reader_init : Stmt := (inClass (top 7) 0)
theorem sc_Reader_init : FnScope ["self", "row", "at"] ["self", "row", "at"] (defScope s_Reader_init) := ⟨rfl, rfl, rfl, by decide +kernel, rfl, by decide +kernel, by decide +kernel⟩
abbrev s_Reader_left : Stmt := (inClass (top 7) 1)
theorem sc_Reader_left : FnScope ["self"] ["self"] (defScope s_Reader_left) := ⟨rfl, rfl, rfl, by decide +kernel, rfl, by decide +kernel, by decide +kernel⟩
abbrev s_Reader_take : Stmt := (inClass (top 7) 2)
theorem sc_Reader_take : FnScope ["self", "many", "found", "k"] ["self", "many"] (defScope s_Reader_take) := ⟨rfl, rfl, rfl, by decide +kernel, rfl, by decide +kernel, by decide +kernel⟩
abbrev s_Reader_place : Stmt := (inClass (top 7) 3)
theorem sc_Reader_place : FnScope ["self"] ["self"] (defScope s_Reader_place) := ⟨rfl, rfl, rfl, by decide +kernel, rfl, by decide +kernel, by decide +kernel⟩
abbrev s_Reader_ended : Stmt := (inClass (top 7) 4)
theorem sc_Reader_ended : FnScope ["self"] ["self"] (defScope s_Reader_ended) := ⟨rfl, rfl, rfl, by decide +kernel, rfl, by decide +kernel, by decide +kernel⟩
abbrev s_l_cell_at : Stmt := (top 9)
theorem sc_l_cell_at : FnScope ["_law_script", "_law_k"] ["_law_script", "_law_k"] (defScope s_l_cell_at) := ⟨rfl, rfl, rfl, by decide +kernel, rfl, by decide +kernel, by decide +kernel⟩
abbrev s_l_mixed : Stmt := (top 10)
theorem sc_l_mixed : FnScope ["_law_cell", "_law_k", "_law_number"] ["_law_cell", "_law_k"] (defScope s_l_mixed) := ⟨rfl, rfl, rfl, by decide +kernel, rfl, by decide +kernel, by decide +kernel⟩
abbrev s_l_whole : Stmt := (top 11)
theorem sc_l_whole : FnScope ["_law_found"] ["_law_found"] (defScope s_l_whole) := ⟨rfl, rfl, rfl, by decide +kernel, rfl, by decide +kernel, by decide +kernel⟩
abbrev s_l_row : Stmt := (top 12)
theorem sc_l_row : FnScope ["_law_cell", "_law_most", "_law_many", "_law_way", "_law_k"] ["_law_cell", "_law_most"] (defScope s_l_row) := ⟨rfl, rfl, rfl, by decide +kernel, rfl, by decide +kernel, by decide +kernel⟩
abbrev s_l_taken : Stmt := (top 13)
theorem sc_l_taken : FnScope ["_law_now", "_law_many", "_law_low", "_law_found"] ["_law_now", "_law_many"] (defScope s_l_taken) := ⟨rfl, rfl, rfl, by decide +kernel, rfl, by decide +kernel, by decide +kernel⟩
abbrev s_l_stands : Stmt := (top 14)
theorem sc_l_stands : FnScope ["_law_now", "_law_reader", "_law_place"] ["_law_now"] (defScope s_l_stands) := ⟨rfl, rfl, rfl, by decide +kernel, rfl, by decide +kernel, by decide +kernel⟩
abbrev s_l_step : Stmt := (top 15)
theorem sc_l_step : FnScope ["_law_now", "_law_cell", "_law_found", "_law_many"] ["_law_now", "_law_cell"] (defScope s_l_step) := ⟨rfl, rfl, rfl, by decide +kernel, rfl, by decide +kernel, by decide +kernel⟩
abbrev s_law : Stmt := (top 16)
theorem sc_law : FnScope ["_law_script", "_law_cell", "_law_row_here", "_law_handed", "_law_whole_here", "_law_byte", "_law_states", "_law_k", "_law_begin", "_law_reader", "_law_one", "_law_now"] ["_law_script"] (defScope s_law) := ⟨rfl, rfl, rfl, by decide +kernel, rfl, by decide +kernel, by decide +kernel⟩
/-- what the top has written -/
structure Tx (K : PySem.W.Frag) (mg : Str → Option Value) where
  a_is_whole : Addr
  d_is_whole : FuncData
  F_is_whole : Fun K "is_whole" "is_whole" s_is_whole a_is_whole d_is_whole
  b_is_whole : Binds K d_is_whole ["thing"] []
  g_is_whole : mg "is_whole" = some (.ref a_is_whole)
  a_refuse_unless : Addr
  d_refuse_unless : FuncData
  F_refuse_unless : Fun K "refuse_unless" "refuse_unless" s_refuse_unless a_refuse_unless d_refuse_unless
  b_refuse_unless : Binds K d_refuse_unless ["good"] []
  g_refuse_unless : mg "refuse_unless" = some (.ref a_refuse_unless)
  a_Reader_init : Addr
  d_Reader_init : FuncData
  F_Reader_init : FunD K "__init__" "Reader.__init__" (defArgs s_Reader_init) (defBody s_Reader_init) (defScope s_Reader_init) [V.int 0] [] a_Reader_init d_Reader_init
  ds_Reader_init_1 : List Value
  v_Reader_init_1 : Vals [V.int 0] ds_Reader_init_1
  b_Reader_init_1 : Binds K d_Reader_init ["self", "row", "at"] ds_Reader_init_1
  its_Reader_init_at : List Value
  kb_Reader_init_at : KBn K d_Reader_init ["self", "row", "at"] 2 ["at"] (fun us ws => us ++ ws) (fun us ws => us ++ ws)
  b_Reader_init : Binds K d_Reader_init ["self", "row", "at"] []
  a_Reader_left : Addr
  d_Reader_left : FuncData
  F_Reader_left : Fun K "left" "Reader.left" s_Reader_left a_Reader_left d_Reader_left
  b_Reader_left : Binds K d_Reader_left ["self"] []
  a_Reader_take : Addr
  d_Reader_take : FuncData
  F_Reader_take : Fun K "take" "Reader.take" s_Reader_take a_Reader_take d_Reader_take
  b_Reader_take : Binds K d_Reader_take ["self", "many"] []
  a_Reader_place : Addr
  d_Reader_place : FuncData
  F_Reader_place : Fun K "place" "Reader.place" s_Reader_place a_Reader_place d_Reader_place
  b_Reader_place : Binds K d_Reader_place ["self"] []
  a_Reader_ended : Addr
  d_Reader_ended : FuncData
  F_Reader_ended : Fun K "ended" "Reader.ended" s_Reader_ended a_Reader_ended d_Reader_ended
  b_Reader_ended : Binds K d_Reader_ended ["self"] []
  a_l_cell_at : Addr
  d_l_cell_at : FuncData
  F_l_cell_at : Fun K "_law_cell_at" "_law_cell_at" s_l_cell_at a_l_cell_at d_l_cell_at
  b_l_cell_at : Binds K d_l_cell_at ["_law_script", "_law_k"] []
  g_l_cell_at : mg "_law_cell_at" = some (.ref a_l_cell_at)
  a_l_mixed : Addr
  d_l_mixed : FuncData
  F_l_mixed : Fun K "_law_mixed" "_law_mixed" s_l_mixed a_l_mixed d_l_mixed
  b_l_mixed : Binds K d_l_mixed ["_law_cell", "_law_k"] []
  g_l_mixed : mg "_law_mixed" = some (.ref a_l_mixed)
  a_l_whole : Addr
  d_l_whole : FuncData
  F_l_whole : Fun K "_law_whole" "_law_whole" s_l_whole a_l_whole d_l_whole
  b_l_whole : Binds K d_l_whole ["_law_found"] []
  g_l_whole : mg "_law_whole" = some (.ref a_l_whole)
  a_l_row : Addr
  d_l_row : FuncData
  F_l_row : Fun K "_law_row" "_law_row" s_l_row a_l_row d_l_row
  b_l_row : Binds K d_l_row ["_law_cell", "_law_most"] []
  g_l_row : mg "_law_row" = some (.ref a_l_row)
  a_l_taken : Addr
  d_l_taken : FuncData
  F_l_taken : Fun K "_law_taken" "_law_taken" s_l_taken a_l_taken d_l_taken
  b_l_taken : Binds K d_l_taken ["_law_now", "_law_many"] []
  g_l_taken : mg "_law_taken" = some (.ref a_l_taken)
  a_l_stands : Addr
  d_l_stands : FuncData
  F_l_stands : Fun K "_law_stands" "_law_stands" s_l_stands a_l_stands d_l_stands
  b_l_stands : Binds K d_l_stands ["_law_now"] []
  g_l_stands : mg "_law_stands" = some (.ref a_l_stands)
  a_l_step : Addr
  d_l_step : FuncData
  F_l_step : Fun K "_law_step" "_law_step" s_l_step a_l_step d_l_step
  b_l_step : Binds K d_l_step ["_law_now", "_law_cell"] []
  g_l_step : mg "_law_step" = some (.ref a_l_step)
  a_law : Addr
  d_law : FuncData
  F_law : Fun K "law" "law" s_law a_law d_law
  b_law : Binds K d_law ["_law_script"] []
  g_law : mg "law" = some (.ref a_law)
  C_Reader : Addr
  g_Reader : mg "Reader" = some (.ref C_Reader)
  cl_Reader : Cls K C_Reader
  n_Reader_bytes : NoAttr K C_Reader "bytes"
  n_Reader_next : NoAttr K C_Reader "next"
  K_Reader : Mk K C_Reader a_Reader_init
  M_Reader_left : Meth K C_Reader "left" a_Reader_left
  M_Reader_take : Meth K C_Reader "take" a_Reader_take
  M_Reader_place : Meth K C_Reader "place" a_Reader_place
  M_Reader_ended : Meth K C_Reader "ended" a_Reader_ended
  z_all : mg "all" = none
  z_bool : mg "bool" = none
  z_int : mg "int" = none
  z_isinstance : mg "isinstance" = none
  z_len : mg "len" = none
  z_list : mg "list" = none
  z_min : mg "min" = none
  z_range : mg "range" = none
  u_MOST_BITS : Value
  m_MOST_BITS : mg "MOST_BITS" = some u_MOST_BITS
  r_MOST_BITS : RelV (.int 64) u_MOST_BITS
def fs_Reader (x0 x1 : V) : List (Str × V) := [("bytes", x0), ("next", x1)]
theorem rd_Reader_bytes {K : PySem.W.Frag} {mg : Str → Option Value} (T : Tx K mg) {H : Hp} {p dx : Addr} {x0 x1 : V} (ho : H p = some (.ins T.C_Reader dx (fs_Reader x0 x1))) {Q : VK} (h : Q x0 H) : rFld K "bytes" (.ref p) H Q := ⟨p, _, dx, _, _, rfl, ho, T.cl_Reader, T.n_Reader_bytes, lkf_hd, h⟩
theorem pt_Reader_bytes {x0 x1 y : V} : putF "bytes" y (fs_Reader x0 x1) = fs_Reader y x1 := ptf_hd
theorem wr_Reader_bytes {K : PySem.W.Frag} {mg : Str → Option Value} (T : Tx K mg) {H : Hp} {p dx : Addr} {x0 x1 : V} (ho : H p = some (.ins T.C_Reader dx (fs_Reader x0 x1))) {y : V} {R : Hp → Prop} (h : R (upd H p (.ins T.C_Reader dx (fs_Reader y x1)))) : wFld K "bytes" (.ref p) y H R := ⟨p, _, dx, _, rfl, ho, T.cl_Reader, T.n_Reader_bytes, (by show 2 < 1000; decide), by rw [pt_Reader_bytes]; exact h⟩
theorem ba_Reader_bytes {K : PySem.W.Frag} {mg : Str → Option Value} (T : Tx K mg) {H : Hp} {p dx : Addr} {x0 x1 : V} (ho : H p = some (.ins T.C_Reader dx (fs_Reader x0 x1))) {R : Addr → Addr → V → Hp → Prop} (h : R p T.C_Reader x0 H) : bFld K "bytes" (.ref p) H R := ⟨p, _, dx, _, _, rfl, ho, T.cl_Reader, T.n_Reader_bytes, lkf_hd, h⟩
theorem aw_Reader_bytes {K : PySem.W.Frag} {mg : Str → Option Value} (T : Tx K mg) {H : Hp} {p dx : Addr} {x0 x1 : V} (ho : H p = some (.ins T.C_Reader dx (fs_Reader x0 x1))) {y : V} {R : Hp → Prop} (h : R (upd H p (.ins T.C_Reader dx (fs_Reader y x1)))) : aFld p T.C_Reader "bytes" y H R := ⟨dx, _, ho, (by show 2 < 1000; decide), by rw [pt_Reader_bytes]; exact h⟩
theorem iw_Reader_bytes {K : PySem.W.Frag} {mg : Str → Option Value} (T : Tx K mg) {H : Hp} {p dx : Addr} { y : V} (ho : H p = some (.ins T.C_Reader dx [])) {R : Hp → Prop} (h : R (upd H p (.ins T.C_Reader dx [("bytes", y)]))) : wFld K "bytes" (.ref p) y H R := ⟨p, _, dx, _, rfl, ho, T.cl_Reader, T.n_Reader_bytes, (by show 0 < 1000; decide), by rw [show putF "bytes" y ([] : List (Str × V)) = ([("bytes", y)] : List (Str × V)) from ptf_nil]; exact h⟩
theorem rd_Reader_next {K : PySem.W.Frag} {mg : Str → Option Value} (T : Tx K mg) {H : Hp} {p dx : Addr} {x0 x1 : V} (ho : H p = some (.ins T.C_Reader dx (fs_Reader x0 x1))) {Q : VK} (h : Q x1 H) : rFld K "next" (.ref p) H Q := ⟨p, _, dx, _, _, rfl, ho, T.cl_Reader, T.n_Reader_next, lkf_tl (by decide +kernel) (lkf_hd), h⟩
theorem pt_Reader_next {x0 x1 y : V} : putF "next" y (fs_Reader x0 x1) = fs_Reader x0 y := ptf_tl (by decide +kernel) (ptf_hd)
theorem wr_Reader_next {K : PySem.W.Frag} {mg : Str → Option Value} (T : Tx K mg) {H : Hp} {p dx : Addr} {x0 x1 : V} (ho : H p = some (.ins T.C_Reader dx (fs_Reader x0 x1))) {y : V} {R : Hp → Prop} (h : R (upd H p (.ins T.C_Reader dx (fs_Reader x0 y)))) : wFld K "next" (.ref p) y H R := ⟨p, _, dx, _, rfl, ho, T.cl_Reader, T.n_Reader_next, (by show 2 < 1000; decide), by rw [pt_Reader_next]; exact h⟩
theorem ba_Reader_next {K : PySem.W.Frag} {mg : Str → Option Value} (T : Tx K mg) {H : Hp} {p dx : Addr} {x0 x1 : V} (ho : H p = some (.ins T.C_Reader dx (fs_Reader x0 x1))) {R : Addr → Addr → V → Hp → Prop} (h : R p T.C_Reader x1 H) : bFld K "next" (.ref p) H R := ⟨p, _, dx, _, _, rfl, ho, T.cl_Reader, T.n_Reader_next, lkf_tl (by decide +kernel) (lkf_hd), h⟩
theorem aw_Reader_next {K : PySem.W.Frag} {mg : Str → Option Value} (T : Tx K mg) {H : Hp} {p dx : Addr} {x0 x1 : V} (ho : H p = some (.ins T.C_Reader dx (fs_Reader x0 x1))) {y : V} {R : Hp → Prop} (h : R (upd H p (.ins T.C_Reader dx (fs_Reader x0 y)))) : aFld p T.C_Reader "next" y H R := ⟨dx, _, ho, (by show 2 < 1000; decide), by rw [pt_Reader_next]; exact h⟩
theorem iw_Reader_next {K : PySem.W.Frag} {mg : Str → Option Value} (T : Tx K mg) {H : Hp} {p dx : Addr} {x0 y : V} (ho : H p = some (.ins T.C_Reader dx [("bytes", x0)])) {R : Hp → Prop} (h : R (upd H p (.ins T.C_Reader dx [("bytes", x0), ("next", y)]))) : wFld K "next" (.ref p) y H R := ⟨p, _, dx, _, rfl, ho, T.cl_Reader, T.n_Reader_next, (by show 1 < 1000; decide), by rw [show putF "next" y ([("bytes", x0)] : List (Str × V)) = ([("bytes", x0), ("next", y)] : List (Str × V)) from ptf_tl (by decide +kernel) (ptf_nil)]; exact h⟩
theorem mt_Reader_left {K : PySem.W.Frag} {mg : Str → Option Value} (T : Tx K mg) {H : Hp} {p dx : Addr} {x0 x1 : V} (ho : H p = some (.ins T.C_Reader dx (fs_Reader x0 x1))) {R : V → Hp → Prop} (h : R (.ref p) H) : rMeth T.C_Reader "left" R (.ref p) H := z_methR ho (lkf_tl (by decide +kernel) (lkf_tl (by decide +kernel) (lkf_nil))) h
theorem mt_Reader_take {K : PySem.W.Frag} {mg : Str → Option Value} (T : Tx K mg) {H : Hp} {p dx : Addr} {x0 x1 : V} (ho : H p = some (.ins T.C_Reader dx (fs_Reader x0 x1))) {R : V → Hp → Prop} (h : R (.ref p) H) : rMeth T.C_Reader "take" R (.ref p) H := z_methR ho (lkf_tl (by decide +kernel) (lkf_tl (by decide +kernel) (lkf_nil))) h
theorem mt_Reader_place {K : PySem.W.Frag} {mg : Str → Option Value} (T : Tx K mg) {H : Hp} {p dx : Addr} {x0 x1 : V} (ho : H p = some (.ins T.C_Reader dx (fs_Reader x0 x1))) {R : V → Hp → Prop} (h : R (.ref p) H) : rMeth T.C_Reader "place" R (.ref p) H := z_methR ho (lkf_tl (by decide +kernel) (lkf_tl (by decide +kernel) (lkf_nil))) h
theorem mt_Reader_ended {K : PySem.W.Frag} {mg : Str → Option Value} (T : Tx K mg) {H : Hp} {p dx : Addr} {x0 x1 : V} (ho : H p = some (.ins T.C_Reader dx (fs_Reader x0 x1))) {R : V → Hp → Prop} (h : R (.ref p) H) : rMeth T.C_Reader "ended" R (.ref p) H := z_methR ho (lkf_tl (by decide +kernel) (lkf_tl (by decide +kernel) (lkf_nil))) h
local macro_rules | `(tactic| walk_at "z1") => `(tactic| first
  | ((with_reducible show Z.rFld _ _ _ _ _); first
    | ((with_reducible apply rd_Reader_bytes); (focus (· walk_at "lk")))
    | ((with_reducible apply rd_Reader_next); (focus (· walk_at "lk"))))
  | ((with_reducible show Z.wFld _ _ _ _ _ _); first
    | ((with_reducible apply wr_Reader_bytes); (focus (· walk_at "lk")))
    | ((with_reducible apply iw_Reader_bytes); (focus (· walk_at "lk")))
    | ((with_reducible apply wr_Reader_next); (focus (· walk_at "lk")))
    | ((with_reducible apply iw_Reader_next); (focus (· walk_at "lk"))))
  | ((with_reducible show Z.bFld _ _ _ _ _); first
    | ((with_reducible apply ba_Reader_bytes); (focus (· walk_at "lk")))
    | ((with_reducible apply ba_Reader_next); (focus (· walk_at "lk"))))
  | ((with_reducible show Z.aFld _ _ _ _ _ _); first
    | ((with_reducible apply aw_Reader_bytes); (focus (· walk_at "lk")))
    | ((with_reducible apply aw_Reader_next); (focus (· walk_at "lk"))))
  | ((with_reducible show Z.rMeth _ _ _ _ _); first
    | ((with_reducible apply mt_Reader_left); (focus (· walk_at "lk")))
    | ((with_reducible apply mt_Reader_take); (focus (· walk_at "lk")))
    | ((with_reducible apply mt_Reader_place); (focus (· walk_at "lk")))
    | ((with_reducible apply mt_Reader_ended); (focus (· walk_at "lk")))))

/-- the law's own mixing: some number below 2 ** 31 -/
def spMixed : Sp := fun vs H Q _ => ∃ c k : Int, vs = [.int c, .int k] ∧ 0 ≤ k ∧ k ≤ 10000 ∧ ∀ n : Int, 0 ≤ n → n < 2147483648 → Q (.int n) H
theorem ok_l_mixed {P : Program} {w : World} {K : PySem.W.Frag} {mg : Str → Option Value} {base : Heap} (T : Tx K mg) : FnOk P w K mg base CX0 1 T.a_l_mixed T.d_l_mixed ["_law_cell", "_law_k"] spMixed := by
  refine T.F_l_mixed.ok sc_l_mixed (fun vs H Q E h => ?_) (fun cdv A outer s H vs Q E hr h => ?_)
  · obtain ⟨c, k, rfl, _⟩ := h; rfl
  · obtain ⟨c, k, rfl, h0, h1, q⟩ := h
    refine ⟨_, (pss_gc (pss_cons (ps_if (PW.pt (pw_and (pt_cmpR op_ge (pv 0) (pe_op op_shl pe_int pe_int) (nomark _)) (pw_and (pt_cmpR (op_eqZ (K := K) rfl hr.units) (pe_op op_mod (pv 0) pe_int) pe_int (nomark _)) (pw_and1 (pt_cmpR op_gt (pe_op op_shr (pv 0) (pe_op (op_addZ (K := K) rfl) pe_int (pe_op op_mulZ pe_int (pv 1)))) pe_int (nomark _)))))) (pss_one (ps_ret (pe_op op_mod (pe_op op_shr (pv 0) (pe_op (op_addZ (K := K) rfl) pe_int (pe_op op_mulZ pe_int (pv 1)))) pe_int))) pss_nil)
      (pss_cons (ps_set (i := 2) sc_l_mixed.nd rfl (by first | exact Or.inl rfl | exact Or.inr rfl) (pe_op op_mod (pe_op op_mulZ (pe_op (op_addZ (K := K) rfl) (pe_op (op_addZ (K := K) rfl) (pv 0) (pe_op op_mulZ pe_int (pv 1))) pe_int) pe_int) pe_int))
      (pss_cons (ps_set (i := 2) sc_l_mixed.nd rfl (by first | exact Or.inl rfl | exact Or.inr rfl) (pe_op op_mod (pe_op op_mulZ (pv 2) (pe_op (op_addZ (K := K) rfl) (pe_op op_fdiv (pv 2) pe_int) pe_int)) pe_int))
      (pss_one (ps_ret (pe_op op_mod (pe_op op_mulZ (pv 2) (pe_op (op_addZ (K := K) rfl) (pe_op (op_addZ (K := K) rfl) (pe_op op_fdiv (pv 2) pe_int) pe_int) (pv 1))) pe_int))))))), ?_⟩
    walk_at "z0"
    refine z_if (fun _ => ?_) (fun _ => ?_)
    · walk_at "z"
      refine z_if (fun _ => ?_) (fun _ => ?_)
      · walk_at "z"
        refine z_if (fun _ => ?_) (fun _ => ?_)
        · walk_at "z"
          exact q _ (by omega) (by omega)
        · walk_at "z"
          exact q _ (by omega) (by omega)
      · walk_at "z"
        exact q _ (by omega) (by omega)
    · walk_at "z"
      exact q _ (by omega) (by omega)
theorem call_mixed {H : Hp} {Q : VK} {E : XK} {c k : Int} (h0 : 0 ≤ k) (h1 : k ≤ 10000) (q : ∀ n : Int, 0 ≤ n → n < 2147483648 → Q (.int n) H) : spMixed [.int c, .int k] H Q E := ⟨c, k, rfl, h0, h1, q⟩


/-- a cell of the script: some number -/
def spCell (K : PySem.W.Frag) : Sp := fun vs H Q _ => ∃ (a : Addr) (ns : List Int) (k : Int), vs = [.ref a, .int k] ∧ SqL K H a (ns.map V.int) ∧ 0 ≤ k ∧ ∀ n : Int, Q (.int n) H
theorem ok_l_cell_at {P : Program} {w : World} {K : PySem.W.Frag} {mg : Str → Option Value} {base : Heap} (T : Tx K mg) : FnOk P w K mg base CX0 1 T.a_l_cell_at T.d_l_cell_at ["_law_script", "_law_k"] (spCell K) := by
  refine T.F_l_cell_at.ok sc_l_cell_at (fun vs H Q E h => ?_) (fun cdv A outer s H vs Q E hr h => ?_)
  · obtain ⟨a, ns, k, rfl, _⟩ := h; rfl
  · obtain ⟨a, ns, k, rfl, hS, h0, q⟩ := h
    refine ⟨_, (pss_gc (pss_cons (ps_if (pt_cmpR op_lt (pv 1) (pe_callB (call_lenZ (K := K) rfl) (by rfl) T.z_len PySem.boot_len (pa_cons (pv 0) pa_nil)) (nomark _)) (pss_one (ps_ret (pe_ix (ix_seqZ (K := K) rfl) (pv 0) (pv 1) (fun _ _ => rfl)))) pss_nil)
      (pss_one (ps_ret pe_int)))), ?_⟩
    walk_at "z0"
    refine z_if (fun _ => ?_) (fun _ => ?_)
    · walk_at "z"
      exact q _
    · walk_at "z"
      exact q _
theorem call_cell {K : PySem.W.Frag} {H : Hp} {Q : VK} {E : XK} {a : Addr} {ns : List Int} {k : Int} (hS : SqL K H a (ns.map V.int)) (h0 : 0 ≤ k) (q : ∀ n : Int, Q (.int n) H) : spCell K [.ref a, .int k] H Q E := ⟨a, ns, k, rfl, hS, h0, q⟩

/-- the bytes of a number, the high ones first -/
def rowOf (n B : Nat) : List Int := (List.range n).map fun k => ((B / 2 ^ (8 * (n - 1 - k)) % 256 : Nat) : Int)
theorem rowOf_len (n B : Nat) : (rowOf n B).length = n := by simp [rowOf]
theorem rowOf_byt (n B : Nat) : Z.Byt (rowOf n B) := by
  intro x hx
  unfold rowOf at hx
  obtain ⟨k, _, rfl⟩ := List.mem_map.mp hx
  omega
theorem rowOf_succ (n B : Nat) : rowOf (n + 1) B = rowOf n (B / 256) ++ [((B % 256 : Nat) : Int)] := by
  unfold rowOf
  rw [List.range_succ, List.map_append]
  congr 1
  · refine List.map_congr_left fun k hk => ?_
    have hk' := List.mem_range.mp hk
    have e : 8 * (n + 1 - 1 - k) = 8 + 8 * (n - 1 - k) := by omega
    rw [e, Nat.pow_add, ← Nat.div_div_eq_div_mul]
  · simp

/-! ### is_whole, refuse_unless -/
def spIsWhole : Sp := fun vs H Q _ => ∃ i : Int, vs = [.int i] ∧ Q (.bl true) H
def spRefuse : Sp := fun vs H Q _ => vs = [.bl true] ∧ Q .non H
section
variable {P : Program} {w : World} {K : PySem.W.Frag} {mg : Str → Option Value} {base : Heap}
theorem ok_is_whole (T : Tx K mg) : FnOk P w K mg base CX0 1 T.a_is_whole T.d_is_whole ["thing"] spIsWhole := by
  refine T.F_is_whole.ok sc_is_whole (fun vs H Q E h => ?_) (fun cdv A outer s H vs Q E hr h => ?_)
  · obtain ⟨i, rfl, _⟩ := h; rfl
  · obtain ⟨i, rfl, q⟩ := h
    refine ⟨_, (pss_gc (pss_one (ps_ret (pe_and (pe_callB (call_isiZ (K := K) rfl) (by rfl) T.z_isinstance (by decide +kernel) (pa_cons (pv 0) (pa_cons (pe_bltn (v := .ty "int") rfl T.z_int (by decide +kernel) rfl) pa_nil))) (pe_one (pe_not (pe_callB (call_isiZ (K := K) rfl) (by rfl) T.z_isinstance (by decide +kernel) (pa_cons (pv 0) (pa_cons (pe_bltn (v := .ty "bool") rfl T.z_bool (by decide +kernel) rfl) pa_nil))))))))), ?_⟩
    walk_at "z0"
    exact q
theorem ok_refuse_unless (T : Tx K mg) : FnOk P w K mg base CX0 3 T.a_refuse_unless T.d_refuse_unless ["good"] spRefuse := by
  refine T.F_refuse_unless.ok sc_refuse_unless (fun vs H Q E h => ?_) (fun cdv A outer s H vs Q E hr h => ?_)
  · obtain ⟨rfl, _⟩ := h; rfl
  · obtain ⟨rfl, q⟩ := h
    refine ⟨_, (pss_gc (pss_one (ps_if (pt_not (pt_truthZ (K := K) rfl (pv 0) (by intro _; rfl))) (pss_one ps_never) pss_nil))), ?_⟩
    walk_at "z0"
    exact q
end
theorem call_is_whole {H : Hp} {Q : VK} {E : XK} {i : Int} (q : Q (.bl true) H) : spIsWhole [.int i] H Q E := ⟨i, rfl, q⟩
theorem call_refuse {H : Hp} {Q : VK} {E : XK} (q : Q .non H) : spRefuse [.bl true] H Q E := ⟨rfl, q⟩
theorem call_refuseD {c : Prop} [Decidable c] {H : Hp} {Q : VK} {E : XK} (hc : c) (q : Q .non H) : spRefuse [.bl (decide c)] H Q E := by rw [decide_eq_true hc]; exact ⟨rfl, q⟩
local macro_rules | `(tactic| walk_at "z1") => `(tactic| first | with_reducible refine call_is_whole ?_ | with_reducible refine call_refuse ?_ | ((with_reducible refine call_refuseD ?_ ?_); (focus (· omega))))

/-! ### bits of a number -/
theorem byte_bit (y t : Nat) (h : t ≤ 7) : y % 256 / 2 ^ t % 2 = y / 2 ^ t % 2 := by
  have : t = 0 ∨ t = 1 ∨ t = 2 ∨ t = 3 ∨ t = 4 ∨ t = 5 ∨ t = 6 ∨ t = 7 := by omega
  rcases this with r | r | r | r | r | r | r | r <;> subst r <;> simp only [Nat.reducePow] <;> omega
theorem row_bit {n W j : Nat} (h : j < 8 * n) : W / 2 ^ (8 * (n - 1 - j / 8)) % 256 / 2 ^ (7 - j % 8) % 2 = W / 2 ^ (8 * n - 1 - j) % 2 := by
  rw [byte_bit _ _ (by omega), Nat.div_div_eq_div_mul, ← Nat.pow_add, show 8 * (n - 1 - j / 8) + (7 - j % 8) = 8 * n - 1 - j by omega]
theorem rowOf_at {n W i : Nat} (h : i < n) : (rowOf n W).getD i 0 = ((W / 2 ^ (8 * (n - 1 - i)) % 256 : Nat) : Int) := by
  unfold rowOf
  rw [List.getD_eq_getElem?_getD, List.getElem?_map, List.getElem?_range h]
  rfl
theorem bit_next (W e k : Nat) : W / 2 ^ e % 2 ^ (k + 1) = 2 * (W / 2 ^ (e + 1) % 2 ^ k) + W / 2 ^ e % 2 := by
  rw [Nat.pow_succ, Nat.mul_comm (2 ^ k) 2, Nat.mod_mul, Nat.pow_succ, ← Nat.div_div_eq_div_mul]
  omega
theorem shr_and1 (b t : Nat) : Builtin.bitAnd ((b : Int) / 2 ^ t) 1 = ((b / 2 ^ t % 2 : Nat) : Int) := by
  have e1 : ((b : Int) / 2 ^ t) = ((b / 2 ^ t : Nat) : Int) := by
    rw [Int.natCast_ediv]
    first | done | (congr 1; exact PyProof.Rows.two_pow_cast t) | simp
  have e : Builtin.bitAnd ((b / 2 ^ t : Nat) : Int) 1 = (((b / 2 ^ t) &&& 1 : Nat) : Int) := Z.and_nat _ 1
  rw [e1, e, Nat.and_one_is_mod]
/-- what is left of the byte behind n bits -/
def rR (M : Nat) : Nat := (8 - M % 8) % 8
theorem rR_int (M : Nat) : (0 - (M : Int)) % 8 = ((rR M : Nat) : Int) := by unfold rR; omega
theorem rR_lt (M : Nat) : rR M < 8 := by unfold rR; omega
theorem rR_le {M n : Nat} (h : M ≤ 8 * n) : M + rR M ≤ 8 * n := by unfold rR; omega
/-- m bits behind the first x of the 8 n bits of W -/
def bitsOf (n W x m : Nat) : Nat := W / 2 ^ (8 * n - x - m) % 2 ^ m

/-! ### the reader: the row of n bytes that is the number W; x bits are taken -/
structure RAt (C : Addr) (H : Hp) (p dx l : Addr) (n W x : Nat) : Prop where
  hp : H p = some (.ins C dx (fs_Reader (.ref l) (.int (x : Int))))
  hl : H l = some (.lst ((rowOf n W).map V.int))
  hx : x ≤ 8 * n
  hn : n ≤ 200000
def rSet (C : Addr) (H : Hp) (p dx l : Addr) (x : Nat) : Hp := upd H p (.ins C dx (fs_Reader (.ref l) (.int (x : Int))))
theorem RAt.ne {C p dx l : Addr} {n W x : Nat} {H : Hp} (h : RAt C H p dx l n W x) : l ≠ p := ne_of h.hl h.hp (by intro z; cases z)
theorem RAt.same {C p dx l : Addr} {n W x : Nat} {H H' : Hp} (h : RAt C H p dx l n W x) (s : Same H H') : RAt C H' p dx l n W x := ⟨s _ _ h.hp, s _ _ h.hl, h.hx, h.hn⟩
theorem RAt.new {C p dx l q : Addr} {n W x : Nat} {H : Hp} {o : HO} (h : RAt C H p dx l n W x) (hq : H q = none) : RAt C (upd H q o) p dx l n W x := ⟨get_new hq h.hp, get_new hq h.hl, h.hx, h.hn⟩
theorem RAt.up {C p dx l q : Addr} {n W x : Nat} {H : Hp} {o : HO} (h : RAt C H p dx l n W x) (h1 : p ≠ q) (h2 : l ≠ q) : RAt C (upd H q o) p dx l n W x := ⟨get_ne h1 h.hp, get_ne h2 h.hl, h.hx, h.hn⟩
theorem RAt.set {C p dx l : Addr} {n W x : Nat} {H : Hp} (h : RAt C H p dx l n W x) {y : Nat} (hy : y ≤ 8 * n) : RAt C (rSet C H p dx l y) p dx l n W y := ⟨upd_same, get_ne h.ne h.hl, hy, h.hn⟩
def spRInit (K : PySem.W.Frag) (C : Addr) : Sp := fun vs H Q _ => ∃ (p dx r : Addr) (n W a : Nat), vs = [.ref p, .ref r, .int (a : Int)] ∧ H p = some (.ins C dx []) ∧ SqL K H r ((rowOf n W).map V.int) ∧ a ≤ n ∧ n ≤ 200000 ∧
  ∀ l, H l = none → Q .non (rSet C (upd H l (.lst ((rowOf n W).map V.int))) p dx l (8 * a))
def spLeft (C : Addr) : Sp := fun vs H Q _ => ∃ (p dx l : Addr) (n W x : Nat), vs = [.ref p] ∧ RAt C H p dx l n W x ∧ Q (.int ((8 * n - x : Nat) : Int)) H
def spPlace (C : Addr) : Sp := fun vs H Q _ => ∃ (p dx l : Addr) (n W x : Nat), vs = [.ref p] ∧ RAt C H p dx l n W x ∧ Q (.int (((x + 7) / 8 : Nat) : Int)) H
def spTake (C : Addr) : Sp := fun vs H Q _ => ∃ (p dx l : Addr) (n W x m : Nat), vs = [.ref p, .int (m : Int)] ∧ RAt C H p dx l n W x ∧ m ≤ 64 ∧ x + m ≤ 8 * n ∧ Q (.int (bitsOf n W x m : Int)) (rSet C H p dx l (x + m))
def spEnded (C : Addr) : Sp := fun vs H Q _ => ∃ (p dx l : Addr) (n W x : Nat), vs = [.ref p] ∧ RAt C H p dx l n W x ∧ Q (.bl (decide (bitsOf n W x (rR x) = 0))) (rSet C H p dx l (x + rR x))
theorem call_left {C p dx l : Addr} {n W x : Nat} {H : Hp} {Q : VK} {E : XK} (h : RAt C H p dx l n W x) (q : Q (.int ((8 * n - x : Nat) : Int)) H) : spLeft C (V.ref p :: ([] ++ [])) H Q E := ⟨p, dx, l, n, W, x, rfl, h, q⟩
theorem call_place {C p dx l : Addr} {n W x : Nat} {H : Hp} {Q : VK} {E : XK} (h : RAt C H p dx l n W x) (q : Q (.int (((x + 7) / 8 : Nat) : Int)) H) : spPlace C (V.ref p :: ([] ++ [])) H Q E := ⟨p, dx, l, n, W, x, rfl, h, q⟩
theorem call_take {C p dx l : Addr} {n W x m : Nat} {H : Hp} {Q : VK} {E : XK} (h : RAt C H p dx l n W x) (hm : m ≤ 64) (hx : x + m ≤ 8 * n) (q : Q (.int (bitsOf n W x m : Int)) (rSet C H p dx l (x + m))) : spTake C (V.ref p :: ([.int (m : Int)] ++ [])) H Q E := ⟨p, dx, l, n, W, x, m, rfl, h, hm, hx, q⟩
theorem call_ended {C p dx l : Addr} {n W x : Nat} {H : Hp} {Q : VK} {E : XK} (h : RAt C H p dx l n W x) (q : Q (.bl (decide (bitsOf n W x (rR x) = 0))) (rSet C H p dx l (x + rR x))) : spEnded C (V.ref p :: ([] ++ [])) H Q E := ⟨p, dx, l, n, W, x, rfl, h, q⟩
section
variable {P : Program} {w : World} {K : PySem.W.Frag} {mg : Str → Option Value} {base : Heap}
theorem ok_Reader_init (T : Tx K mg) : FnOk P w K mg base CX0 4 T.a_Reader_init T.d_Reader_init ["self", "row", "at"] (spRInit K T.C_Reader) := by
  refine fd_ok T.F_Reader_init sc_Reader_init (fun vs H Q E h => ?_) (fun cdv A outer s H vs Q E hr h => ?_)
  · obtain ⟨p, dx, r, n, W, a, rfl, _⟩ := h; rfl
  · obtain ⟨p, dx, r, n, W, a, rfl, hp, hr1, ha, hn, q⟩ := h
    refine ⟨_, (pss_cons (ps_expr (pe_callZ (ok_refuse_unless T) (hr.mono (by decide)) (by rfl) T.g_refuse_unless T.F_refuse_unless.kp T.b_refuse_unless pass0 (pa_cons (pe_and (pe_callZ (ok_is_whole T) (hr.mono (by decide)) (by rfl) T.g_is_whole T.F_is_whole.kp T.b_is_whole pass0 (pa_cons (pv 2) pa_nil)) (pe_one (pe_chain op_le op_le pe_int (pv 2) (pe_callB (call_lenZ (K := K) rfl) (by rfl) T.z_len PySem.boot_len (pa_cons (pv 1) pa_nil))))) pa_nil)))
      (pss_cons (ps_fldZ (K := K) rfl (pv 0) (pe_callTy (call_listZ (K := K) rfl) (by rfl) T.z_list (by decide +kernel) (pa_cons (pv 1) pa_nil)) rfl)
      (pss_one (ps_fldZ (K := K) rfl (pv 0) (pe_op op_mulZ pe_int (pv 2)) rfl)))), ?_⟩
    have hlen := rowOf_len n W
    walk_at "z0"
    refine z_list hr1 fun l hl => ?_
    have hp2 := get_new (u := .lst ((rowOf n W).map V.int)) hl hp
    walk_at "z"
    rw [upd_upd]
    exact q l hl
theorem ok_Reader_left (T : Tx K mg) : FnOk P w K mg base CX0 1 T.a_Reader_left T.d_Reader_left ["self"] (spLeft T.C_Reader) := by
  refine T.F_Reader_left.ok sc_Reader_left (fun vs H Q E h => ?_) (fun cdv A outer s H vs Q E hr h => ?_)
  · obtain ⟨p, dx, l, n, W, x, rfl, _⟩ := h; rfl
  · obtain ⟨p, dx, l, n, W, x, rfl, ⟨hp, hl, hx, hn⟩, q⟩ := h
    refine ⟨_, (pss_gc (pss_one (ps_ret (pe_op op_sub (pe_op op_mulZ pe_int (pe_callB (call_lenZ (K := K) rfl) (by rfl) T.z_len PySem.boot_len (pa_cons (pe_fldZ (K := K) rfl (pv 0) rfl) pa_nil))) (pe_fldZ (K := K) rfl (pv 0) rfl))))), ?_⟩
    walk_at "z0"
    rw [rowOf_len, show (8 * (n : Int) - (x : Int)) = ((8 * n - x : Nat) : Int) by omega]
    exact q
theorem ok_Reader_place (T : Tx K mg) : FnOk P w K mg base CX0 1 T.a_Reader_place T.d_Reader_place ["self"] (spPlace T.C_Reader) := by
  refine T.F_Reader_place.ok sc_Reader_place (fun vs H Q E h => ?_) (fun cdv A outer s H vs Q E hr h => ?_)
  · obtain ⟨p, dx, l, n, W, x, rfl, _⟩ := h; rfl
  · obtain ⟨p, dx, l, n, W, x, rfl, ⟨hp, hl, hx, hn⟩, q⟩ := h
    refine ⟨_, (pss_gc (pss_one (ps_ret (pe_op op_fdiv (pe_op (op_addZ (K := K) rfl) (pe_fldZ (K := K) rfl (pv 0) rfl) pe_int) pe_int)))), ?_⟩
    walk_at "z0"
    rw [show (((x : Int) + 7) / 8) = (((x + 7) / 8 : Nat) : Int) by omega]
    exact q
theorem ok_Reader_take (T : Tx K mg) : FnOk P w K mg base CX0 4 T.a_Reader_take T.d_Reader_take ["self", "many"] (spTake T.C_Reader) := by
  refine T.F_Reader_take.ok sc_Reader_take (fun vs H Q E h => ?_) (fun cdv A outer s H vs Q E hr h => ?_)
  · obtain ⟨p, dx, l, n, W, x, m, rfl, _⟩ := h; rfl
  · obtain ⟨p, dx, l, n, W, x, m, rfl, R, hm, hx, q⟩ := h
    have hp := R.hp
    refine ⟨_, (pss_cons (ps_expr (pe_callZ (ok_refuse_unless T) (hr.mono (by decide)) (by rfl) T.g_refuse_unless T.F_refuse_unless.kp T.b_refuse_unless pass0 (pa_cons (pe_and (pe_callZ (ok_is_whole T) (hr.mono (by decide)) (by rfl) T.g_is_whole T.F_is_whole.kp T.b_is_whole pass0 (pa_cons (pv 1) pa_nil)) (pe_and (pe_chain op_le op_le pe_int (pv 1) (pe_glob rfl T.m_MOST_BITS T.r_MOST_BITS)) (pe_one (pe_cmpR op_le (pv 1) (pe_meth0Z (pv 0) T.cl_Reader T.M_Reader_left (ok_Reader_left T) (hr.mono (by decide)) T.b_Reader_left pass0) (nomark _))))) pa_nil)))
      (pss_cons (ps_set (i := 2) sc_Reader_take.nd rfl (by first | exact Or.inl rfl | exact Or.inr rfl) pe_int)
      (pss_cons (ps_for PassesOwn.never rfl (pi_range1 rfl T.z_range (pa_cons (pv 1) pa_nil)) (pg_name (i := 3) sc_Reader_take.nd rfl (by first | exact Or.inl rfl | exact Or.inr rfl)) (pss_cons (ps_set (i := 2) sc_Reader_take.nd rfl (by first | exact Or.inl rfl | exact Or.inr rfl) (pe_op (op_addZ (K := K) rfl) (pe_op op_mulZ pe_int (pv 2)) (pe_op op_and (pe_op op_shr (pe_ix (ix_seqZ (K := K) rfl) (pe_fldZ (K := K) rfl (pv 0) rfl) (pe_op op_fdiv (pe_fldZ (K := K) rfl (pv 0) rfl) pe_int) (fun _ _ => rfl)) (pe_op op_sub pe_int (pe_op op_mod (pe_fldZ (K := K) rfl (pv 0) rfl) pe_int))) pe_int)))
      (pss_one (ps_fldaugZ (K := K) rfl (pv 0) pe_int in_add))))
      (pss_one (ps_ret (pv 2)))))), ?_⟩
    walk_at "z0"
    refine call_left R ?_
    walk_at "z"
    rw [show ((m : Int)).toNat = m from Int.toNat_natCast m]
    refine p_range (fun k σ' H' => ∃ v, σ' = [some (.ref p), some (.int (m : Int)), some (.int (bitsOf n W x k : Int)), v] ∧ H' = rSet T.C_Reader H p dx l (x + k)) ⟨none, ?_, ?_⟩ ?_ ?_
    · unfold bitsOf
      rw [Nat.pow_zero, Nat.mod_one]
      rfl
    · exact (upd_self hp).symm
    · rintro k σ' H' hk ⟨v, rfl, rfl⟩
      have hlen := rowOf_len n W
      have hl2 : rSet T.C_Reader H p dx l (x + k) l = some (.lst ((rowOf n W).map V.int)) := get_ne R.ne R.hl
      have hp2 : rSet T.C_Reader H p dx l (x + k) p = some (.ins T.C_Reader dx (fs_Reader (.ref l) (.int ((x + k : Nat) : Int)))) := upd_same
      walk_at "z"
      rw [show (((x + k : Nat) : Int) / 8).toNat = (x + k) / 8 by omega, rowOf_at (by omega), show (7 - ((x + k : Nat) : Int) % 8).toNat = 7 - (x + k) % 8 by omega, shr_and1, row_bit (by omega)]
      refine ⟨some (.int (0 + (k : Int))), ?_, ?_⟩
      · have e : bitsOf n W x (k + 1) = 2 * bitsOf n W x k + W / 2 ^ (8 * n - 1 - (x + k)) % 2 := by
          unfold bitsOf
          rw [bit_next, show 8 * n - x - (k + 1) + 1 = 8 * n - x - k by omega, show 8 * n - x - (k + 1) = 8 * n - 1 - (x + k) by omega]
        rw [e]
        simp only [Int.natCast_add, Int.natCast_mul]
        rfl
      · unfold rSet
        rw [upd_upd, show ((x + k : Nat) : Int) + 1 = ((x + (k + 1) : Nat) : Int) by omega]
    · rintro σ' H' ⟨v, rfl, rfl⟩
      walk_at "z"
      exact q
theorem ok_Reader_ended (T : Tx K mg) : FnOk P w K mg base CX0 5 T.a_Reader_ended T.d_Reader_ended ["self"] (spEnded T.C_Reader) := by
  refine T.F_Reader_ended.ok sc_Reader_ended (fun vs H Q E h => ?_) (fun cdv A outer s H vs Q E hr h => ?_)
  · obtain ⟨p, dx, l, n, W, x, rfl, _⟩ := h; rfl
  · obtain ⟨p, dx, l, n, W, x, rfl, R, q⟩ := h
    have hp := R.hp
    refine ⟨_, (pss_one (ps_ret (pe_cmpR (op_eqZ (K := K) rfl hr.units) (pe_methZ (pv 0) T.cl_Reader T.M_Reader_take (ok_Reader_take T) (hr.mono (by decide)) T.b_Reader_take pass0 (pa_cons (pe_op op_mod (pe_op op_sub pe_int (pe_fldZ (K := K) rfl (pv 0) rfl)) pe_int) pa_nil)) pe_int (nomark _)))), ?_⟩
    walk_at "z0"
    rw [rR_int]
    have := rR_lt x
    refine call_take R (by omega) (rR_le R.hx) ?_
    walk_at "z"
    rw [show (decide (((bitsOf n W x (rR x) : Nat) : Int) = 0)) = decide (bitsOf n W x (rR x) = 0) by congr 1; exact propext (by omega)]
    exact q
end

/-! ### a row of bytes as a number -/
def numOf (ns : List Int) : Nat := ns.foldl (fun a b => 256 * a + b.toNat) 0
theorem num_snoc (ns : List Int) (b : Int) : numOf (ns ++ [b]) = 256 * numOf ns + b.toNat := by unfold numOf; rw [List.foldl_append]; rfl
theorem row_num : ∀ (n : Nat) (ns : List Int), ns.length = n → Byt ns → rowOf n (numOf ns) = ns
  | 0, ns, hl, _ => by
    have : ns = [] := List.length_eq_zero_iff.mp hl
    subst this
    rfl
  | n + 1, ns, hl, hB => by
    rcases List.eq_nil_or_concat ns with e | ⟨ms, b, e⟩
    · rw [e] at hl
      cases hl
    · rw [List.concat_eq_append] at e
      subst e
      have hb := hB b (by simp)
      rw [num_snoc, rowOf_succ, show (256 * numOf ms + b.toNat) / 256 = numOf ms by omega, show ((256 * numOf ms + b.toNat) % 256 : Nat) = b.toNat by omega, row_num n ms (by simpa using hl) (fun x hx => hB x (by simp [hx]))]
      rw [show ((b.toNat : Nat) : Int) = b by omega]
theorem num_lt : ∀ (n : Nat) (ns : List Int), ns.length = n → Byt ns → numOf ns < 2 ^ (8 * n)
  | 0, ns, hl, _ => by
    have : ns = [] := List.length_eq_zero_iff.mp hl
    subst this
    decide
  | n + 1, ns, hl, hB => by
    rcases List.eq_nil_or_concat ns with e | ⟨ms, b, e⟩
    · rw [e] at hl
      cases hl
    · rw [List.concat_eq_append] at e
      subst e
      have hb := hB b (by simp)
      have h := num_lt n ms (by simpa using hl) (fun x hx => hB x (by simp [hx]))
      rw [num_snoc, show 8 * (n + 1) = 8 * n + 8 by omega, Nat.pow_add]
      simp only [Nat.reducePow]
      omega
theorem and_mask (X t m : Nat) : Builtin.bitAnd ((X : Int) / 2 ^ t) (1 * 2 ^ ((m : Int)).toNat - 1) = ((X / 2 ^ t % 2 ^ m : Nat) : Int) := by
  have e1 : ((X : Int) / 2 ^ t) = ((X / 2 ^ t : Nat) : Int) := by
    rw [Int.natCast_ediv]
    first | done | (congr 1; exact PyProof.Rows.two_pow_cast t) | simp
  have hp := Nat.two_pow_pos m
  have e2 : (1 * 2 ^ ((m : Int)).toNat - 1 : Int) = ((2 ^ m - 1 : Nat) : Int) := by
    rw [Int.toNat_natCast, Int.one_mul, PyProof.Rows.two_pow_cast]
    omega
  have e : Builtin.bitAnd ((X / 2 ^ t : Nat) : Int) ((2 ^ m - 1 : Nat) : Int) = (((X / 2 ^ t) &&& (2 ^ m - 1) : Nat) : Int) := Z.and_nat _ _
  rw [e1, e2, e, Nat.and_two_pow_sub_one_eq_mod]

/-! ### the law's own row of bytes -/
def spRowM : Sp := fun vs H Q _ => ∃ (c : Int) (m : Nat), vs = [.int c, .int (m : Int)] ∧ m ≤ 1000 ∧ ∀ (ns : List Int) p, Byt ns → ns.length ≤ m → H p = none → Q (.ref p) (upd H p (.lst (ns.map V.int)))
theorem pick4 {a b c d n : Int} (P : Int → Prop) (ha : P a) (hb : P b) (hc : P c) (hd : P d) (h0 : 0 ≤ n) (h4 : n < 4) : P (([a, b, c, d] : List Int).getD n.toNat 0) := by
  have : n = 0 ∨ n = 1 ∨ n = 2 ∨ n = 3 := by omega
  rcases this with e | e | e | e <;> subst e
  · exact ha
  · exact hb
  · exact hc
  · exact hd
theorem ok_l_row {P : Program} {w : World} {K : PySem.W.Frag} {mg : Str → Option Value} {base : Heap} (T : Tx K mg) : FnOk P w K mg base CX0 2 T.a_l_row T.d_l_row ["_law_cell", "_law_most"] spRowM := by
  refine T.F_l_row.ok sc_l_row (fun vs H Q E h => ?_) (fun cdv A outer s H vs Q E hr h => ?_)
  · obtain ⟨c, m, rfl, _⟩ := h; rfl
  · obtain ⟨c, m, rfl, hm, q⟩ := h
    refine ⟨_, (pss_gc (pss_cons (ps_set (i := 2) sc_l_row.nd rfl (by first | exact Or.inl rfl | exact Or.inr rfl) (pe_op op_mod (pe_callZ (ok_l_mixed T) (hr.mono (by decide)) (by rfl) T.g_l_mixed T.F_l_mixed.kp T.b_l_mixed pass0 (pa_cons (pv 0) (pa_cons pe_int pa_nil))) (pe_op (op_addZ (K := K) rfl) (pv 1) pe_int)))
      (pss_cons (ps_set (i := 3) sc_l_row.nd rfl (by first | exact Or.inl rfl | exact Or.inr rfl) (pe_op op_mod (pe_callZ (ok_l_mixed T) (hr.mono (by decide)) (by rfl) T.g_l_mixed T.F_l_mixed.kp T.b_l_mixed pass0 (pa_cons (pv 0) (pa_cons pe_int pa_nil))) pe_int))
      (pss_cons (ps_if (pt_cmpR (op_eqZ (K := K) rfl hr.units) (pv 3) pe_int (nomark _)) (pss_one (ps_ret (pe_lc (own := [("_law_k", 4)]) rfl sc_l_row.nd (pi_range1 rfl T.z_range (pa_cons (pv 2) pa_nil)) (blkOk_by (N := ["_law_cell", "_law_most", "_law_many", "_law_way", "_law_k"]) (sc := defScope s_l_row) (by decide +kernel)) (fun _ _ _ _ _ => (pg_name (i := 4) sc_l_row.nd rfl (by first | exact Or.inl rfl | exact Or.inr rfl))) (fun _ _ _ _ _ => pts_nil) (fun _ _ _ _ _ => (pe_gc (pe_ix (ix_seqZ (K := K) rfl) (pe_lst (pa_cons pe_int (pa_cons pe_int (pa_cons pe_int (pa_cons pe_int pa_nil))))) (pe_op op_mod (pe_callZ (ok_l_mixed T) (hr.mono (by decide)) (by rfl) T.g_l_mixed T.F_l_mixed.kp T.b_l_mixed pass0 (pa_cons (pv 0) (pa_cons (pe_op (op_addZ (K := K) rfl) pe_int (pv 4)) pa_nil))) pe_int) (fun _ _ => rfl))))))) pss_nil)
      (pss_cons (ps_if (pt_cmpR (op_eqZ (K := K) rfl hr.units) (pv 3) pe_int (nomark _)) (pss_one (ps_ret (pe_op op_mulZ (pe_lst (pa_cons (pe_op op_mod (pe_callZ (ok_l_mixed T) (hr.mono (by decide)) (by rfl) T.g_l_mixed T.F_l_mixed.kp T.b_l_mixed pass0 (pa_cons (pv 0) (pa_cons pe_int pa_nil))) pe_int) pa_nil)) (pv 2)))) pss_nil)
      (pss_one (ps_ret (pe_lc (own := [("_law_k", 4)]) rfl sc_l_row.nd (pi_range1 rfl T.z_range (pa_cons (pv 2) pa_nil)) (blkOk_by (N := ["_law_cell", "_law_most", "_law_many", "_law_way", "_law_k"]) (sc := defScope s_l_row) (by decide +kernel)) (fun _ _ _ _ _ => (pg_name (i := 4) sc_l_row.nd rfl (by first | exact Or.inl rfl | exact Or.inr rfl))) (fun _ _ _ _ _ => pts_nil) (fun _ _ _ _ _ => (pe_gc (pe_op op_mod (pe_callZ (ok_l_mixed T) (hr.mono (by decide)) (by rfl) T.g_l_mixed T.F_l_mixed.kp T.b_l_mixed pass0 (pa_cons (pv 0) (pa_cons (pe_op (op_addZ (K := K) rfl) pe_int (pv 4)) pa_nil))) pe_int))))))))))), ?_⟩
    walk_at "z0"
    refine call_mixed (by omega) (by omega) fun n1 a1 b1 => ?_
    walk_at "z"
    refine call_mixed (by omega) (by omega) fun n2 a2 b2 => ?_
    walk_at "z"
    have hl1 : 0 ≤ n1 % ((m : Int) + 1) := Int.emod_nonneg _ (by omega)
    have hl2 : n1 % ((m : Int) + 1) < (m : Int) + 1 := Int.emod_lt_of_pos _ (by omega)
    generalize n1 % ((m : Int) + 1) = many at hl1 hl2
    obtain ⟨mm, rfl⟩ := Int.eq_ofNat_of_zero_le hl1
    have hz : ((mm : Int)).toNat ≤ sizeLine := Nat.le_trans (show ((mm : Int)).toNat ≤ 1000 by omega) (by decide)
    refine z_if (fun _ => ?_) (fun _ => ?_)
    · walk_at "z"
      refine c_rangeP (fun _ y => 0 ≤ y ∧ y < 256) hz (fun _ => rfl) ?_ ?_
      · intro i H1 R hi sm r
        dsimp only [wipe, List.set]
        walk_at "z"
        refine ⟨by show 4 ≤ sizeLine; decide, fun r1 hr1 => ?_⟩
        walk_at "z"
        refine call_mixed (by omega) (by omega) fun n3 a3 b3 => ?_
        walk_at "z"
        refine z_ixI (ns := [0, 255, 165, 90]) (SqL.of upd_same) (by omega) (by show n3 % 4 < 4; omega) ?_
        refine z_gc (gc_sx (by walk_at "sx")) ?_
        exact r _ (pick4 (fun y => 0 ≤ y ∧ y < 256) (by decide) (by decide) (by decide) (by decide) (by omega) (by omega))
      · intro D ns hD hl hp
        exact z_gcN hD rfl (q ns D (byt_of hp) (by omega) hD)
    · walk_at "z"
      refine z_if (fun _ => ?_) (fun _ => ?_)
      · walk_at "z"
        refine call_mixed (by omega) (by omega) fun n3 a3 b3 => ?_
        walk_at "z"
        refine ⟨by show 1 ≤ sizeLine; decide, fun r1 hr1 => ?_⟩
        walk_at "z"
        refine z_rep upd_same (by omega) (by omega) (Nat.le_trans (show _ ≤ 1000 by show 1 * _ ≤ 1000; omega) (by decide)) fun r2 hr2 => ?_
        have e : (List.replicate ((mm : Int)).toNat [V.int (n3 % 256)]).flatten = (List.replicate mm (n3 % 256)).map V.int := by
          rw [Int.toNat_natCast, List.map_replicate]
          clear hl1 hl2 hm hz
          induction mm with
          | zero => rfl
          | succ k ih => rw [List.replicate_succ, List.replicate_succ, List.flatten_cons, ih]; rfl
        rw [e]
        have nr2 := none_new hr2
        refine z_gc (gc_one (H := H) (p := r2) (by walk_at "bs") (by walk_at "sx") upd_same) ?_
        refine q _ r2 ?_ (by rw [List.length_replicate]; omega) nr2
        intro x hx
        rw [(List.mem_replicate.mp hx).2]
        omega
      · walk_at "z"
        refine c_rangeP (fun _ y => 0 ≤ y ∧ y < 256) hz (fun _ => rfl) ?_ ?_
        · intro i H1 R hi sm r
          dsimp only [wipe, List.set]
          walk_at "z"
          refine call_mixed (by omega) (by omega) fun n3 a3 b3 => ?_
          walk_at "z"
          exact r _ (by omega)
        · intro D ns hD hl hp
          exact z_gcN hD rfl (q ns D (byt_of hp) (by omega) hD)
theorem call_rowM {H : Hp} {Q : VK} {E : XK} {c : Int} {m : Nat} (hm : m ≤ 1000) (q : ∀ (ns : List Int) p, Byt ns → ns.length ≤ m → H p = none → Q (.ref p) (upd H p (.lst (ns.map V.int)))) : spRowM [.int c, .int (m : Int)] H Q E := ⟨c, m, rfl, hm, q⟩

def dr (x0 x1 x2 x3 : V) : List (Key × V) := [(.inr "reader", x0), (.inr "whole", x1), (.inr "bits", x2), (.inr "left", x3)]
theorem dr_k0_1 : ¬ (Sum.inr (Str.ofString "reader") : Key) = Sum.inr (Str.ofString "whole") := by decide +kernel
theorem dr_k0_2 : ¬ (Sum.inr (Str.ofString "reader") : Key) = Sum.inr (Str.ofString "bits") := by decide +kernel
theorem dr_k0_3 : ¬ (Sum.inr (Str.ofString "reader") : Key) = Sum.inr (Str.ofString "left") := by decide +kernel
theorem dr_k1_0 : ¬ (Sum.inr (Str.ofString "whole") : Key) = Sum.inr (Str.ofString "reader") := by decide +kernel
theorem dr_k1_2 : ¬ (Sum.inr (Str.ofString "whole") : Key) = Sum.inr (Str.ofString "bits") := by decide +kernel
theorem dr_k1_3 : ¬ (Sum.inr (Str.ofString "whole") : Key) = Sum.inr (Str.ofString "left") := by decide +kernel
theorem dr_k2_0 : ¬ (Sum.inr (Str.ofString "bits") : Key) = Sum.inr (Str.ofString "reader") := by decide +kernel
theorem dr_k2_1 : ¬ (Sum.inr (Str.ofString "bits") : Key) = Sum.inr (Str.ofString "whole") := by decide +kernel
theorem dr_k2_3 : ¬ (Sum.inr (Str.ofString "bits") : Key) = Sum.inr (Str.ofString "left") := by decide +kernel
theorem dr_k3_0 : ¬ (Sum.inr (Str.ofString "left") : Key) = Sum.inr (Str.ofString "reader") := by decide +kernel
theorem dr_k3_1 : ¬ (Sum.inr (Str.ofString "left") : Key) = Sum.inr (Str.ofString "whole") := by decide +kernel
theorem dr_k3_2 : ¬ (Sum.inr (Str.ofString "left") : Key) = Sum.inr (Str.ofString "bits") := by decide +kernel
theorem dr_reader {x0 x1 x2 x3 : V} : valV (dr x0 x1 x2 x3) (Sum.inr "reader") = some x0 := valV_pos rfl
theorem dr_put_reader {x0 x1 x2 x3 : V} {y : V} : putK (dr x0 x1 x2 x3) (Sum.inr "reader") y = dr y x1 x2 x3 := by
  unfold putK dr
  simp only [List.any_cons, List.map_cons, List.map_nil, if_neg dr_k1_0, decide_eq_false dr_k1_0, if_neg dr_k2_0, decide_eq_false dr_k2_0, if_neg dr_k3_0, decide_eq_false dr_k3_0, if_true, decide_true, Bool.true_or, Bool.or_true, Bool.false_or]
theorem dr_whole {x0 x1 x2 x3 : V} : valV (dr x0 x1 x2 x3) (Sum.inr "whole") = some x1 := (valV_neg dr_k0_1).trans (valV_pos rfl)
theorem dr_put_whole {x0 x1 x2 x3 : V} {y : V} : putK (dr x0 x1 x2 x3) (Sum.inr "whole") y = dr x0 y x2 x3 := by
  unfold putK dr
  simp only [List.any_cons, List.map_cons, List.map_nil, if_neg dr_k0_1, decide_eq_false dr_k0_1, if_neg dr_k2_1, decide_eq_false dr_k2_1, if_neg dr_k3_1, decide_eq_false dr_k3_1, if_true, decide_true, Bool.true_or, Bool.or_true, Bool.false_or]
theorem dr_bits {x0 x1 x2 x3 : V} : valV (dr x0 x1 x2 x3) (Sum.inr "bits") = some x2 := (valV_neg dr_k0_2).trans ((valV_neg dr_k1_2).trans (valV_pos rfl))
theorem dr_put_bits {x0 x1 x2 x3 : V} {y : V} : putK (dr x0 x1 x2 x3) (Sum.inr "bits") y = dr x0 x1 y x3 := by
  unfold putK dr
  simp only [List.any_cons, List.map_cons, List.map_nil, if_neg dr_k0_2, decide_eq_false dr_k0_2, if_neg dr_k1_2, decide_eq_false dr_k1_2, if_neg dr_k3_2, decide_eq_false dr_k3_2, if_true, decide_true, Bool.true_or, Bool.or_true, Bool.false_or]
theorem dr_left {x0 x1 x2 x3 : V} : valV (dr x0 x1 x2 x3) (Sum.inr "left") = some x3 := (valV_neg dr_k0_3).trans ((valV_neg dr_k1_3).trans ((valV_neg dr_k2_3).trans (valV_pos rfl)))
theorem dr_put_left {x0 x1 x2 x3 : V} {y : V} : putK (dr x0 x1 x2 x3) (Sum.inr "left") y = dr x0 x1 x2 y := by
  unfold putK dr
  simp only [List.any_cons, List.map_cons, List.map_nil, if_neg dr_k0_3, decide_eq_false dr_k0_3, if_neg dr_k1_3, decide_eq_false dr_k1_3, if_neg dr_k2_3, decide_eq_false dr_k2_3, if_true, decide_true, Bool.true_or, Bool.or_true, Bool.false_or]
theorem dr_merge {x0 x1 x2 x3 : V} : mergeK [] (dr x0 x1 x2 x3) = dr x0 x1 x2 x3 := by
  unfold mergeK dr
  simp only [List.foldl_cons, List.foldl_nil, putK, List.any_cons, List.any_nil, decide_eq_false dr_k0_1, decide_eq_false dr_k0_2, decide_eq_false dr_k0_3, decide_eq_false dr_k1_2, decide_eq_false dr_k1_3, decide_eq_false dr_k2_3, Bool.or_false, Bool.false_eq_true, if_false, List.cons_append, List.nil_append]
local macro_rules | `(tactic| walk_at "z1") => `(tactic| ((with_reducible show Z.rDGet _ _ _ _); (apply Z.z_dgetS); (focus (· walk_at "lk")); (focus (· first | exact dr_reader | exact dr_whole | exact dr_bits | exact dr_left))))
/-- the law's own word of a reader -/
def rdW (p : Addr) (n W x : Nat) : HO := .dK (dr (.ref p) (.int (W : Int)) (.int ((8 * n : Nat) : Int)) (.int ((8 * n - x : Nat) : Int)))
def spWhole : Sp := fun vs H Q _ => (∃ i : Int, vs = [.int i] ∧ Q (.bl true) H) ∨ (∃ b : Bool, vs = [.bl b] ∧ Q (.bl false) H)
def spTaken : Sp := fun vs H Q _ => ∃ (d p : Addr) (n W x m : Nat), vs = [.ref d, .int (m : Int)] ∧ H d = some (rdW p n W x) ∧ x + m ≤ 8 * n ∧ m ≤ 64 ∧ n ≤ 1000 ∧ Q (.int ((bitsOf n W x m : Nat) : Int)) (upd H d (rdW p n W (x + m)))
def spStands (C : Addr) : Sp := fun vs H Q _ => ∃ (d p dx l : Addr) (n W x : Nat), vs = [.ref d] ∧ H d = some (rdW p n W x) ∧ RAt C H p dx l n W x ∧ Q (.bl true) H
def spStep (C : Addr) : Sp := fun vs H Q _ => ∃ (d p dx l : Addr) (n W x : Nat) (c : Int), vs = [.ref d, .int c] ∧ H d = some (rdW p n W x) ∧ RAt C H p dx l n W x ∧ n ≤ 1000 ∧ ∀ (y : Nat) (H' : Hp), y ≤ 8 * n → Same (upd (rSet C H p dx l y) d (rdW p n W y)) H' → Q (.bl true) H'
theorem call_wholeI {H : Hp} {Q : VK} {E : XK} {i : Int} (q : Q (.bl true) H) : spWhole [.int i] H Q E := .inl ⟨i, rfl, q⟩
theorem call_wholeB {H : Hp} {Q : VK} {E : XK} {b : Bool} (q : Q (.bl false) H) : spWhole [.bl b] H Q E := .inr ⟨b, rfl, q⟩
theorem call_taken {H : Hp} {Q : VK} {E : XK} {d p : Addr} {n W x m : Nat} (hd : H d = some (rdW p n W x)) (h1 : x + m ≤ 8 * n) (h2 : m ≤ 64) (h3 : n ≤ 1000) (q : Q (.int ((bitsOf n W x m : Nat) : Int)) (upd H d (rdW p n W (x + m)))) : spTaken [.ref d, .int (m : Int)] H Q E := ⟨d, p, n, W, x, m, rfl, hd, h1, h2, h3, q⟩
local macro_rules | `(tactic| walk_at "z1") => `(tactic| first | with_reducible refine call_wholeI ?_ | with_reducible refine call_wholeB ?_)
section
variable {P : Program} {w : World} {K : PySem.W.Frag} {mg : Str → Option Value} {base : Heap}
theorem ok_l_whole (T : Tx K mg) : FnOk P w K mg base CX0 1 T.a_l_whole T.d_l_whole ["_law_found"] spWhole := by
  refine T.F_l_whole.ok sc_l_whole (fun vs H Q E h => ?_) (fun cdv A outer s H vs Q E hr h => ?_)
  · rcases h with ⟨i, rfl, _⟩ | ⟨i, rfl, _⟩ <;> rfl
  · rcases h with ⟨i, rfl, q⟩ | ⟨i, rfl, q⟩
    · refine ⟨_, (pss_gc (pss_one (ps_ret (pe_and (pe_callB (call_isiZ (K := K) rfl) (by rfl) T.z_isinstance (by decide +kernel) (pa_cons (pv 0) (pa_cons (pe_bltn (v := .ty "int") rfl T.z_int (by decide +kernel) rfl) pa_nil))) (pe_one (pe_not (pe_callB (call_isiZ (K := K) rfl) (by rfl) T.z_isinstance (by decide +kernel) (pa_cons (pv 0) (pa_cons (pe_bltn (v := .ty "bool") rfl T.z_bool (by decide +kernel) rfl) pa_nil))))))))), ?_⟩
      walk_at "z0"
      exact q
    · refine ⟨_, (pss_gc (pss_one (ps_ret (pe_and (pe_callB (call_isiZ (K := K) rfl) (by rfl) T.z_isinstance (by decide +kernel) (pa_cons (pv 0) (pa_cons (pe_bltn (v := .ty "int") rfl T.z_int (by decide +kernel) rfl) pa_nil))) (pe_one (pe_not (pe_callB (call_isiZ (K := K) rfl) (by rfl) T.z_isinstance (by decide +kernel) (pa_cons (pv 0) (pa_cons (pe_bltn (v := .ty "bool") rfl T.z_bool (by decide +kernel) rfl) pa_nil))))))))), ?_⟩
      walk_at "z0"
      exact q
theorem ok_l_taken (T : Tx K mg) : FnOk P w K mg base CX0 1 T.a_l_taken T.d_l_taken ["_law_now", "_law_many"] spTaken := by
  refine T.F_l_taken.ok sc_l_taken (fun vs H Q E h => ?_) (fun cdv A outer s H vs Q E hr h => ?_)
  · obtain ⟨d, p, n, W, x, m, rfl, _⟩ := h; rfl
  · obtain ⟨d, p, n, W, x, m, rfl, hd, h1, h2, h3, q⟩ := h
    unfold rdW at hd
    refine ⟨_, (pss_cons (ps_set (i := 2) sc_l_taken.nd rfl (by first | exact Or.inl rfl | exact Or.inr rfl) (pe_op op_sub (pe_dget (hu_of hr) (pv 0) pe_str (fun _ _ => rfl)) (pv 1)))
      (pss_cons (ps_set (i := 3) sc_l_taken.nd rfl (by first | exact Or.inl rfl | exact Or.inr rfl) (pe_op op_and (pe_op op_shr (pe_dget (hu_of hr) (pv 0) pe_str (fun _ _ => rfl)) (pv 2)) (pe_op op_sub (pe_op op_shl pe_int (pv 1)) pe_int)))
      (pss_cons (ps_dput (hu_of hr) (pv 0) pe_str (pv 2) rfl)
      (pss_one (ps_ret (pv 3)))))), ?_⟩
    walk_at "z0"
    rw [show (((8 * n - x : Nat) : Int) - (m : Int)).toNat = 8 * n - x - m by omega, and_mask]
    refine z_dputS hd (by show 4 < sizeLine; decide) ?_
    rw [dr_put_left, show (((8 * n - x : Nat) : Int) - (m : Int)) = ((8 * n - (x + m) : Nat) : Int) by omega]
    walk_at "z"
    exact q
theorem ok_l_stands (T : Tx K mg) : FnOk P w K mg base CX0 2 T.a_l_stands T.d_l_stands ["_law_now"] (spStands T.C_Reader) := by
  refine T.F_l_stands.ok sc_l_stands (fun vs H Q E h => ?_) (fun cdv A outer s H vs Q E hr h => ?_)
  · obtain ⟨d, p, dx, l, n, W, x, rfl, _⟩ := h; rfl
  · obtain ⟨d, p, dx, l, n, W, x, rfl, hd, R, q⟩ := h
    unfold rdW at hd
    have hp := R.hp
    have hx := R.hx
    refine ⟨_, (pss_gc (pss_cons (ps_set (i := 1) sc_l_stands.nd rfl (by first | exact Or.inl rfl | exact Or.inr rfl) (pe_dget (hu_of hr) (pv 0) pe_str (fun _ _ => rfl)))
      (pss_cons (ps_set (i := 2) sc_l_stands.nd rfl (by first | exact Or.inl rfl | exact Or.inr rfl) (pe_op op_fdiv (pe_op (op_addZ (K := K) rfl) (pe_op op_sub (pe_dget (hu_of hr) (pv 0) pe_str (fun _ _ => rfl)) (pe_dget (hu_of hr) (pv 0) pe_str (fun _ _ => rfl))) pe_int) pe_int))
      (pss_cons (ps_if (PW.pt (pw_or (pt_not (pt_truthZ (K := K) rfl (pe_callZ (ok_l_whole T) (hr.mono (by decide)) (by rfl) T.g_l_whole T.F_l_whole.kp T.b_l_whole pass0 (pa_cons (pe_meth0Z (pv 1) T.cl_Reader T.M_Reader_left (ok_Reader_left T) (hr.mono (by decide)) T.b_Reader_left pass0) pa_nil)) (by intro _; rfl))) (pw_or1 (pt_not (pt_truthZ (K := K) rfl (pe_callZ (ok_l_whole T) (hr.mono (by decide)) (by rfl) T.g_l_whole T.F_l_whole.kp T.b_l_whole pass0 (pa_cons (pe_meth0Z (pv 1) T.cl_Reader T.M_Reader_place (ok_Reader_place T) (hr.mono (by decide)) T.b_Reader_place pass0) pa_nil)) (by intro _; rfl)))))) (pss_one (ps_ret pe_bl)) pss_nil)
      (pss_one (ps_ret (pe_and (pe_cmpR (op_eqZ (K := K) rfl hr.units) (pe_meth0Z (pv 1) T.cl_Reader T.M_Reader_left (ok_Reader_left T) (hr.mono (by decide)) T.b_Reader_left pass0) (pe_dget (hu_of hr) (pv 0) pe_str (fun _ _ => rfl)) (nomark _)) (pe_one (pe_cmpR (op_eqZ (K := K) rfl hr.units) (pe_meth0Z (pv 1) T.cl_Reader T.M_Reader_place (ok_Reader_place T) (hr.mono (by decide)) T.b_Reader_place pass0) (pv 2) (nomark _)))))))))), ?_⟩
    walk_at "z0"
    refine call_left R ?_
    walk_at "z"
    refine call_place R ?_
    walk_at "z"
    refine call_left R ?_
    walk_at "z"
    refine call_place R ?_
    walk_at "z"
    rw [decide_eq_true (show (((x + 7) / 8 : Nat) : Int) = (((8 * n : Nat) : Int) - ((8 * n - x : Nat) : Int) + 7) / 8 by omega)]
    exact q
theorem ok_l_step (T : Tx K mg) : FnOk P w K mg base CX0 6 T.a_l_step T.d_l_step ["_law_now", "_law_cell"] (spStep T.C_Reader) := by
  refine T.F_l_step.ok sc_l_step (fun vs H Q E h => ?_) (fun cdv A outer s H vs Q E hr h => ?_)
  · obtain ⟨d, p, dx, l, n, W, x, c, rfl, _⟩ := h; rfl
  · obtain ⟨d, p, dx, l, n, W, x, c, rfl, hd, R, hn, q⟩ := h
    have hp := R.hp
    have hx := R.hx
    have ndp : d ≠ p := ne_of hd hp (by intro z; cases z)
    have hd' := hd
    unfold rdW at hd'
    refine ⟨_, (pss_cons (ps_if (pt_cmpR (op_eqZ (K := K) rfl hr.units) (pe_op op_mod (pe_callZ (ok_l_mixed T) (hr.mono (by decide)) (by rfl) T.g_l_mixed T.F_l_mixed.kp T.b_l_mixed pass0 (pa_cons (pv 1) (pa_cons pe_int pa_nil))) pe_int) pe_int (nomark _)) (pss_cons (ps_set (i := 2) sc_l_step.nd rfl (by first | exact Or.inl rfl | exact Or.inr rfl) (pe_meth0Z (pe_dget (hu_of hr) (pv 0) pe_str (fun _ _ => rfl)) T.cl_Reader T.M_Reader_ended (ok_Reader_ended T) (hr.mono (by decide)) T.b_Reader_ended pass0))
      (pss_one (ps_ret (pe_and (pe_cmpR (op_inZ (K := K) rfl) (pv 2) (pe_lst (pa_cons pe_bl (pa_cons pe_bl pa_nil))) (by rfl)) (pe_and (pe_not (pe_callZ (ok_l_whole T) (hr.mono (by decide)) (by rfl) T.g_l_whole T.F_l_whole.kp T.b_l_whole pass0 (pa_cons (pv 2) pa_nil))) (pe_one (pe_cmpR (op_eqZ (K := K) rfl hr.units) (pv 2) (pe_cmpR (op_eqZ (K := K) rfl hr.units) (pe_callZ (ok_l_taken T) (hr.mono (by decide)) (by rfl) T.g_l_taken T.F_l_taken.kp T.b_l_taken pass0 (pa_cons (pv 0) (pa_cons (pe_op op_mod (pe_dget (hu_of hr) (pv 0) pe_str (fun _ _ => rfl)) pe_int) pa_nil))) pe_int (nomark _)) (nomark _)))))))) pss_nil)
      (pss_cons (ps_set (i := 3) sc_l_step.nd rfl (by first | exact Or.inl rfl | exact Or.inr rfl) (pe_ix (ix_seqZ (K := K) rfl) (pe_lst (pa_cons (pe_op op_mod (pe_callZ (ok_l_mixed T) (hr.mono (by decide)) (by rfl) T.g_l_mixed T.F_l_mixed.kp T.b_l_mixed pass0 (pa_cons (pv 1) (pa_cons pe_int pa_nil))) pe_int) (pa_cons (pe_op op_mod (pe_callZ (ok_l_mixed T) (hr.mono (by decide)) (by rfl) T.g_l_mixed T.F_l_mixed.kp T.b_l_mixed pass0 (pa_cons (pv 1) (pa_cons pe_int pa_nil))) pe_int) (pa_cons pe_int (pa_cons pe_int pa_nil))))) (pe_op op_mod (pe_callZ (ok_l_mixed T) (hr.mono (by decide)) (by rfl) T.g_l_mixed T.F_l_mixed.kp T.b_l_mixed pass0 (pa_cons (pv 1) (pa_cons pe_int pa_nil))) pe_int) (fun _ _ => rfl)))
      (pss_cons (ps_set (i := 3) sc_l_step.nd rfl (by first | exact Or.inl rfl | exact Or.inr rfl) (pe_callB (call_min2Z rfl) (by rfl) T.z_min (by decide +kernel) (pa_cons (pv 3) (pa_cons (pe_dget (hu_of hr) (pv 0) pe_str (fun _ _ => rfl)) pa_nil))))
      (pss_cons (ps_set (i := 2) sc_l_step.nd rfl (by first | exact Or.inl rfl | exact Or.inr rfl) (pe_methZ (pe_dget (hu_of hr) (pv 0) pe_str (fun _ _ => rfl)) T.cl_Reader T.M_Reader_take (ok_Reader_take T) (hr.mono (by decide)) T.b_Reader_take pass0 (pa_cons (pv 3) pa_nil)))
      (pss_one (ps_ret (pe_and (pe_callZ (ok_l_whole T) (hr.mono (by decide)) (by rfl) T.g_l_whole T.F_l_whole.kp T.b_l_whole pass0 (pa_cons (pv 2) pa_nil)) (pe_one (pe_cmpR (op_eqZ (K := K) rfl hr.units) (pv 2) (pe_callZ (ok_l_taken T) (hr.mono (by decide)) (by rfl) T.g_l_taken T.F_l_taken.kp T.b_l_taken pass0 (pa_cons (pv 0) (pa_cons (pv 3) pa_nil))) (nomark _)))))))))), ?_⟩
    walk_at "z0"
    refine call_mixed (by omega) (by omega) fun n1 a1 b1 => ?_
    walk_at "z"
    refine z_if (fun _ => ?_) (fun _ => ?_)
    · walk_at "z"
      refine call_ended R ?_
      have hd2 : rSet T.C_Reader H p dx l (x + rR x) d = some (rdW p n W x) := get_ne ndp hd
      have hd2' := hd2
      unfold rdW at hd2'
      walk_at "z"
      refine ⟨by show 2 ≤ sizeLine; decide, fun r1 hr1 => ?_⟩
      refine z_inB (SqL.of upd_same) rfl ?_
      have e : inV (V.bl (decide (bitsOf n W x (rR x) = 0))) [V.bl true, V.bl false] = true := by
        cases decide (bitsOf n W x (rR x) = 0) <;> rfl
      rw [e]
      have hd3' := get_new (u := .lst [V.bl true, V.bl false]) hr1 hd2'
      walk_at "z"
      rw [show (((8 * n - x : Nat) : Int) % 8) = ((rR x : Nat) : Int) by unfold rR; omega]
      have := rR_lt x
      have := rR_le hx
      refine call_taken (get_new hr1 hd2) (by omega) (by omega) hn ?_
      walk_at "z"
      rw [show (decide (((bitsOf n W x (rR x) : Nat) : Int) = 0)) = decide (bitsOf n W x (rR x) = 0) by congr 1; exact propext (by omega)]
      walk_at "z"
      rw [decide_eq_true rfl]
      refine q (x + rR x) _ (by omega) ?_
      have nd : r1 ≠ d := (ne_of_none hd2 hr1).symm
      rw [upd_comm nd]
      exact same_new (Same.refl _) (by rw [upd_ne nd]; exact hr1)
    · walk_at "z"
      refine call_mixed (by omega) (by omega) fun n2 a2 b2 => ?_
      walk_at "z"
      refine call_mixed (by omega) (by omega) fun n3 a3 b3 => ?_
      walk_at "z"
      refine ⟨by show 4 ≤ sizeLine; decide, fun r1 hr1 => ?_⟩
      walk_at "z"
      refine call_mixed (by omega) (by omega) fun n4 a4 b4 => ?_
      walk_at "z"
      refine z_ixI (ns := [n2 % 65, n3 % 9, 64, 1]) (SqL.of upd_same) (by omega) (by show n4 % 4 < 4; omega) ?_
      have hm := pick4 (fun y => 0 ≤ y ∧ y ≤ 64) (a := n2 % 65) (b := n3 % 9) (c := 64) (d := 1) (n := n4 % 4) (by omega) (by omega) (by decide) (by decide) (by omega) (by omega)
      generalize ([n2 % 65, n3 % 9, 64, 1] : List Int).getD (n4 % 4).toNat 0 = m0 at hm
      walk_at "z"
      obtain ⟨m, hmm⟩ : ∃ m : Nat, min m0 ((8 * n - x : Nat) : Int) = (m : Int) := ⟨(min m0 ((8 * n - x : Nat) : Int)).toNat, by omega⟩
      rw [hmm]
      walk_at "z"
      refine call_take (R.new hr1) (by omega) (by omega) ?_
      have hd2 : rSet T.C_Reader (upd H r1 (.lst [.int (n2 % 65), .int (n3 % 9), .int 64, .int 1])) p dx l (x + m) d = some (rdW p n W x) := get_ne ndp (get_new hr1 hd)
      walk_at "z"
      refine call_taken hd2 (by omega) (by omega) hn ?_
      walk_at "z"
      rw [decide_eq_true rfl]
      refine q (x + m) _ (by omega) ?_
      have nd : r1 ≠ d := (ne_of_none hd hr1).symm
      have np : r1 ≠ p := (ne_of_none hp hr1).symm
      unfold rSet
      rw [upd_comm np, upd_comm nd]
      exact same_new (Same.refl _) (by rw [upd_ne nd, upd_ne np]; exact hr1)
end

/-! ### makers -/
theorem mk_core {K : PySem.W.Frag} {C : Addr} {H : Hp} {Q : VK} {E : XK} {hA : Addr} {n W b : Nat} (hh : SqL K H hA ((rowOf n W).map V.int)) (hb : b ≤ n) (hn : n ≤ 200000)
    (k : ∀ p dx l H', H p = none → H l = none → Same H H' → RAt C H' p dx l n W (8 * b) → Q (.ref p) H') (x dx : Addr) (hx : H x = none) (hdx : H dx = none) (ne : dx ≠ x) :
    spRInit K C [.ref x, .ref hA, .int (b : Int)] (upd (upd H dx (.own x)) x (.ins C dx [])) (fun v H2 => v = .non ∧ Q (.ref x) H2) E := by
  have hx2 : upd H dx (.own x) x = none := (upd_ne ne.symm).trans hx
  refine ⟨x, dx, hA, n, W, b, rfl, upd_same, sq_up hx2 (sq_up hdx hh), hb, hn, fun l hl => ⟨rfl, ?_⟩⟩
  have hl0 : H l = none := none_new (none_new hl)
  have nl : l ≠ x := ne_new hl
  refine k x dx l _ hx hl0 ?_ ⟨upd_same, get_ne nl upd_same, by omega, hn⟩
  unfold rSet
  exact same_up (same_up (same_up (same_up (Same.refl H) hdx) hx) hl0) hx
theorem mk_r {K : PySem.W.Frag} {C : Addr} {H : Hp} {Q : VK} {E : XK} {hA : Addr} {n W b : Nat} (hh : SqL K H hA ((rowOf n W).map V.int)) (hb : b ≤ n) (hn : n ≤ 200000)
    (k : ∀ p dx l H', H p = none → H l = none → Same H H' → RAt C H' p dx l n W (8 * b) → Q (.ref p) H') : rMake C (spRInit K C) E [] Q [.ref hA, .int (b : Int)] H := fun x dx hx hdx ne => mk_core hh hb hn k x dx hx hdx ne
theorem mk_r0 {K : PySem.W.Frag} {C : Addr} {H : Hp} {Q : VK} {E : XK} {hA : Addr} {n W : Nat} (hh : SqL K H hA ((rowOf n W).map V.int)) (hn : n ≤ 200000)
    (k : ∀ p dx l H', H p = none → H l = none → Same H H' → RAt C H' p dx l n W (8 * 0) → Q (.ref p) H') : rMake C (spRInit K C) E [V.int 0] Q [.ref hA] H := fun x dx hx hdx ne => mk_core (b := 0) hh (Nat.zero_le _) hn k x dx hx hdx ne
theorem mk_rk {K : PySem.W.Frag} {C : Addr} {H : Hp} {Q : VK} {E : XK} {hA : Addr} {n W b : Nat} (hh : SqL K H hA ((rowOf n W).map V.int)) (hb : b ≤ n) (hn : n ≤ 200000)
    (k : ∀ p dx l H', H p = none → H l = none → Same H H' → RAt C H' p dx l n W (8 * b) → Q (.ref p) H') : rMakeN C 1 1 (spRInit K C) (fun us ws => us ++ ws) E Q [.ref hA] [.int (b : Int)] H := ⟨rfl, rfl, fun x dx hx hdx ne => mk_core hh hb hn k x dx hx hdx ne⟩

/-! ### the readers that are told -/
structure RS where
  d : Addr
  p : Addr
  dx : Addr
  l : Addr
  x : Nat
structure Sts (C : Addr) (H : Hp) (n W : Nat) (sl : Addr) (ss : List RS) : Prop where
  hs : H sl = some (.lst (ss.map fun s => V.ref s.d))
  hd : ∀ (i : Nat) (s : RS), ss[i]? = some s → H s.d = some (rdW s.p n W s.x)
  hr : ∀ (i : Nat) (s : RS), ss[i]? = some s → RAt C H s.p s.dx s.l n W s.x
  nl : ∀ (i : Nat) (s : RS), ss[i]? = some s → s.l ≠ sl
  ap : ∀ (i j : Nat) (s t : RS), ss[i]? = some s → ss[j]? = some t → i ≠ j → s.p ≠ t.p ∧ s.d ≠ t.d
theorem Sts.nil {C : Addr} {H : Hp} {n W : Nat} {sl : Addr} (h : H sl = some (.lst [])) : Sts C H n W sl [] :=
  ⟨h, fun i s e => by simp at e, fun i s e => by simp at e, fun i s e => by simp at e, fun i j s t e => by simp at e⟩
theorem Sts.same {C : Addr} {H H' : Hp} {n W : Nat} {sl : Addr} {ss : List RS} (h : Sts C H n W sl ss) (s : Same H H') : Sts C H' n W sl ss :=
  ⟨s _ _ h.hs, fun i t e => s _ _ (h.hd i t e), fun i t e => (h.hr i t e).same s, h.nl, h.ap⟩
theorem Sts.up {C : Addr} {H : Hp} {n W : Nat} {sl q : Addr} {ss : List RS} {ys : List V} {o : HO} (h : Sts C H n W sl ss) (hq : H q = some (.lst ys)) (nq : sl ≠ q) (nl : ∀ (i : Nat) (s : RS), ss[i]? = some s → s.l ≠ q) : Sts C (upd H q o) n W sl ss :=
  ⟨get_ne nq h.hs, fun i t e => get_ne (ne_of (h.hd i t e) hq (by intro z; cases z)) (h.hd i t e), fun i t e => (h.hr i t e).up (ne_of (h.hr i t e).hp hq (by intro z; cases z)) (nl i t e), h.nl, h.ap⟩
theorem set_get {α : Type} {ss : List α} {i j : Nat} {s t : α} (e : (ss.set i s)[j]? = some t) : (j = i ∧ t = s) ∨ (j ≠ i ∧ ss[j]? = some t) := by
  by_cases h : j = i
  · subst h
    rw [List.getElem?_set] at e
    simp only [if_true] at e
    split at e
    · exact .inl ⟨rfl, (Option.some.inj e).symm⟩
    · cases e
  · rw [List.getElem?_set_ne (fun z => h z.symm)] at e
    exact .inr ⟨h, e⟩
theorem map_set_same {α β : Type} {ss : List α} {i : Nat} {s u : α} (f : α → β) (hi : ss[i]? = some s) (hf : f u = f s) : (ss.set i u).map f = ss.map f := by
  apply List.ext_getElem?
  intro j
  rw [List.getElem?_map, List.getElem?_map]
  by_cases h : j = i
  · subst h
    have := (List.getElem?_eq_some_iff.mp hi).1
    rw [List.getElem?_set_self this, hi]
    simp [hf]
  · rw [List.getElem?_set_ne (fun z => h z.symm)]
theorem Sts.set {C : Addr} {H : Hp} {n W : Nat} {sl : Addr} {ss : List RS} (h : Sts C H n W sl ss) {i : Nat} {s : RS} (hi : ss[i]? = some s) {y : Nat} (hy : y ≤ 8 * n) :
    Sts C (upd (rSet C H s.p s.dx s.l y) s.d (rdW s.p n W y)) n W sl (ss.set i ⟨s.d, s.p, s.dx, s.l, y⟩) := by
  have hd := h.hd i s hi
  have hr := h.hr i s hi
  have nsp : sl ≠ s.p := ne_of h.hs hr.hp (by intro z; cases z)
  have nsd : sl ≠ s.d := ne_of h.hs hd (by intro z; cases z)
  have npd : s.p ≠ s.d := ne_of hr.hp hd (by intro z; cases z)
  have nld : s.l ≠ s.d := ne_of hr.hl hd (by intro z; cases z)
  unfold rSet
  refine ⟨?_, fun j t e => ?_, fun j t e => ?_, fun j t e => ?_, fun j k t u e1 e2 ne => ?_⟩
  · rw [map_set_same (u := ⟨s.d, s.p, s.dx, s.l, y⟩) (fun s : RS => V.ref s.d) hi rfl]
    exact get_ne nsd (get_ne nsp h.hs)
  · rcases set_get e with ⟨rfl, rfl⟩ | ⟨nj, e⟩
    · exact upd_same
    · have a := h.ap j i t s e hi nj
      exact get_ne a.2 (get_ne (ne_of (h.hd j t e) hr.hp (by intro z; cases z)) (h.hd j t e))
  · rcases set_get e with ⟨rfl, rfl⟩ | ⟨nj, e⟩
    · exact ⟨get_ne npd upd_same, get_ne nld (get_ne hr.ne hr.hl), hy, hr.hn⟩
    · have a := h.ap j i t s e hi nj
      have r := h.hr j t e
      exact (r.up a.1 (ne_of r.hl hr.hp (by intro z; cases z))).up (ne_of r.hp hd (by intro z; cases z)) (ne_of r.hl hd (by intro z; cases z))
  · rcases set_get e with ⟨rfl, rfl⟩ | ⟨nj, e⟩
    · exact h.nl j s hi
    · exact h.nl j t e
  · rcases set_get e1 with ⟨rfl, rfl⟩ | ⟨nj, f1⟩
    · rcases set_get e2 with ⟨rfl, rfl⟩ | ⟨nk, f2⟩
      · exact absurd rfl ne
      · exact h.ap j k s u hi f2 ne
    · rcases set_get e2 with ⟨rfl, rfl⟩ | ⟨nk, f2⟩
      · exact h.ap j k t s f1 hi ne
      · exact h.ap j k t u f1 f2 ne
theorem snoc_get {α : Type} {ss : List α} {j : Nat} {s t : α} (e : (ss ++ [s])[j]? = some t) : (j = ss.length ∧ t = s) ∨ (j < ss.length ∧ ss[j]? = some t) := by
  rw [List.getElem?_append] at e
  split at e
  · rename_i hj
    exact .inr ⟨hj, e⟩
  · rename_i hj
    have h0 : j - ss.length = 0 := by
      cases q : j - ss.length with
      | zero => rfl
      | succ d => rw [q] at e; simp at e
    rw [h0] at e
    exact .inl ⟨by omega, (Option.some.inj e).symm⟩
theorem Sts.push {C : Addr} {H : Hp} {n W : Nat} {sl : Addr} {ss : List RS} (h : Sts C H n W sl ss) {s : RS} (hd : H s.d = some (rdW s.p n W s.x)) (hr : RAt C H s.p s.dx s.l n W s.x) (hl : s.l ≠ sl) (ha : ∀ (i : Nat) (t : RS), ss[i]? = some t → t.p ≠ s.p ∧ t.d ≠ s.d) :
    Sts C (upd H sl (.lst ((ss.map fun s => V.ref s.d) ++ [.ref s.d]))) n W sl (ss ++ [s]) := by
  refine ⟨?_, fun j t e => ?_, fun j t e => ?_, fun j t e => ?_, fun j k t u e1 e2 ne => ?_⟩
  · rw [List.map_append]
    exact upd_same
  · rcases snoc_get e with ⟨rfl, rfl⟩ | ⟨_, e⟩
    · exact get_ne (ne_of hd h.hs (by intro z; cases z)) hd
    · exact get_ne (ne_of (h.hd j t e) h.hs (by intro z; cases z)) (h.hd j t e)
  · rcases snoc_get e with ⟨rfl, rfl⟩ | ⟨_, e⟩
    · exact hr.up (ne_of hr.hp h.hs (by intro z; cases z)) hl
    · exact (h.hr j t e).up (ne_of (h.hr j t e).hp h.hs (by intro z; cases z)) (h.nl j t e)
  · rcases snoc_get e with ⟨rfl, rfl⟩ | ⟨_, e⟩
    · exact hl
    · exact h.nl j t e
  · rcases snoc_get e1 with ⟨rfl, rfl⟩ | ⟨_, f1⟩
    · rcases snoc_get e2 with ⟨rfl, rfl⟩ | ⟨_, f2⟩
      · exact absurd rfl ne
      · exact ⟨(ha k u f2).1.symm, (ha k u f2).2.symm⟩
    · rcases snoc_get e2 with ⟨rfl, rfl⟩ | ⟨_, f2⟩
      · exact ha j t f1
      · exact h.ap j k t u f1 f2 ne
theorem call_stands {C : Addr} {H : Hp} {n W : Nat} {sl : Addr} {ss : List RS} {Q : VK} {E : XK} {i : Nat} {s : RS} (h : Sts C H n W sl ss) (hi : ss[i]? = some s) (q : Q (.bl true) H) : spStands C [.ref s.d] H Q E :=
  ⟨s.d, s.p, s.dx, s.l, n, W, s.x, rfl, h.hd i s hi, h.hr i s hi, q⟩
theorem call_step {C : Addr} {H : Hp} {n W : Nat} {sl : Addr} {ss : List RS} {Q : VK} {E : XK} {i : Nat} {s : RS} {c : Int} (h : Sts C H n W sl ss) (hn : n ≤ 1000) (hi : ss[i]? = some s) (q : ∀ (y : Nat) (H' : Hp), y ≤ 8 * n → Same (upd (rSet C H s.p s.dx s.l y) s.d (rdW s.p n W y)) H' → Q (.bl true) H') : spStep C [.ref s.d, .int c] H Q E :=
  ⟨s.d, s.p, s.dx, s.l, n, W, s.x, c, rfl, h.hd i s hi, h.hr i s hi, hn, q⟩
theorem pick3 {a b c n : Int} (P : Int → Prop) (ha : P a) (hb : P b) (hc : P c) (h0 : 0 ≤ n) (h4 : n < 3) : P (([a, b, c] : List Int).getD n.toNat 0) := by
  have : n = 0 ∨ n = 1 ∨ n = 2 := by omega
  rcases this with e | e | e <;> subst e
  · exact ha
  · exact hb
  · exact hc
def spLaw (K : PySem.W.Frag) : Sp := fun vs H Q _ => ∃ (a : Addr) (ns : List Int), vs = [.ref a] ∧ SqL K H a (ns.map V.int) ∧ ns.length ≤ 63 ∧ ND H ∧ ∀ H', Q (.bl true) H'
section
variable {P : Program} {w : World} {K : PySem.W.Frag} {mg : Str → Option Value} {base : Heap}
theorem ok_law (T : Tx K mg) : FnOk P w K mg base CX0 7 T.a_law T.d_law ["_law_script"] (spLaw K) := by
  refine T.F_law.ok sc_law (fun vs H Q E h => ?_) (fun cdv A outer s H vs Q E hr h => ?_)
  · obtain ⟨a, ns, rfl, _⟩ := h; rfl
  · obtain ⟨a, sc, rfl, hS, hl, nd, q⟩ := h
    refine ⟨_, (pss_cons (ps_set (i := 1) sc_law.nd rfl (by first | exact Or.inl rfl | exact Or.inr rfl) (pe_callZ (ok_l_cell_at T) (hr.mono (by decide)) (by rfl) T.g_l_cell_at T.F_l_cell_at.kp T.b_l_cell_at pass0 (pa_cons (pv 0) (pa_cons pe_int pa_nil))))
      (pss_cons (ps_set (i := 2) sc_law.nd rfl (by first | exact Or.inl rfl | exact Or.inr rfl) (pe_callZ (ok_l_row T) (hr.mono (by decide)) (by rfl) T.g_l_row T.F_l_row.kp T.b_l_row pass0 (pa_cons (pe_callZ (ok_l_cell_at T) (hr.mono (by decide)) (by rfl) T.g_l_cell_at T.F_l_cell_at.kp T.b_l_cell_at pass0 (pa_cons (pv 0) (pa_cons pe_int pa_nil))) (pa_cons pe_int pa_nil))))
      (pss_cons (ps_set (i := 3) sc_law.nd rfl (by first | exact Or.inl rfl | exact Or.inr rfl) (pe_callTy (call_listZ (K := K) rfl) (by rfl) T.z_list (by decide +kernel) (pa_cons (pv 2) pa_nil)))
      (pss_cons (ps_set (i := 4) sc_law.nd rfl (by first | exact Or.inl rfl | exact Or.inr rfl) pe_int)
      (pss_cons (ps_for PassesOwn.never rfl (pi_listZ (K := K) rfl (pv 2)) (pg_name (i := 5) sc_law.nd rfl (by first | exact Or.inl rfl | exact Or.inr rfl)) (pss_one (ps_set (i := 4) sc_law.nd rfl (by first | exact Or.inl rfl | exact Or.inr rfl) (pe_op (op_addZ (K := K) rfl) (pe_op op_mulZ pe_int (pv 4)) (pv 5)))))
      (pss_cons (ps_set (i := 6) sc_law.nd rfl (by first | exact Or.inl rfl | exact Or.inr rfl) (pe_lst pa_nil))
      (pss_cons (ps_for PassesOwn.never rfl (pi_range1 rfl T.z_range (pa_cons pe_int pa_nil)) (pg_name (i := 7) sc_law.nd rfl (by first | exact Or.inl rfl | exact Or.inr rfl)) (pss_cons (ps_set (i := 8) sc_law.nd rfl (by first | exact Or.inl rfl | exact Or.inr rfl) (pe_ix (ix_seqZ (K := K) rfl) (pe_lst (pa_cons (pe_op op_mod (pe_op op_fdiv (pv 1) (pe_op (op_addZ (K := K) rfl) (pe_op op_mulZ pe_int (pv 7)) pe_int)) (pe_op (op_addZ (K := K) rfl) (pe_callB (call_lenZ (K := K) rfl) (by rfl) T.z_len PySem.boot_len (pa_cons (pv 2) pa_nil)) pe_int)) (pa_cons pe_int (pa_cons (pe_callB (call_lenZ (K := K) rfl) (by rfl) T.z_len PySem.boot_len (pa_cons (pv 2) pa_nil)) pa_nil)))) (pe_op op_mod (pe_op op_fdiv (pe_op op_fdiv (pe_op op_fdiv (pv 1) pe_int) pe_int) (pe_op (op_addZ (K := K) rfl) (pe_op op_mulZ pe_int (pv 7)) pe_int)) pe_int) (fun _ _ => rfl)))
      (pss_cons (ps_set (i := 9) sc_law.nd rfl (by first | exact Or.inl rfl | exact Or.inr rfl) (pe_make T.K_Reader (ok_Reader_init T) (hr.mono (by decide)) (by rfl) T.g_Reader T.b_Reader_init .nil pass0 (pa_cons (pv 3) (pa_cons (pv 8) pa_nil))))
      (pss_cons (ps_J (ps_if (pt_cmpR (op_eqZ (K := K) rfl hr.units) (pe_op op_mod (pe_op op_fdiv (pv 1) pe_int) pe_int) pe_int (nomark _)) (pss_one (ps_set (i := 9) sc_law.nd rfl (by first | exact Or.inl rfl | exact Or.inr rfl) (pe_makeN (n := 1) T.K_Reader (ok_Reader_init T) (hr.mono (by decide)) (by rfl) T.g_Reader T.kb_Reader_init_at pass0 (pa_cons (pv 3) pa_nil) (pk_cons (pv 8) pk_nil)))) pss_nil))
      (pss_cons (ps_J (ps_if (PW.pt (pw_and (pt_cmpR (op_eqZ (K := K) rfl hr.units) (pv 8) pe_int (nomark _)) (pw_and1 (pt_cmpR (op_eqZ (K := K) rfl hr.units) (pe_op op_mod (pv 1) pe_int) pe_int (nomark _))))) (pss_one (ps_set (i := 9) sc_law.nd rfl (by first | exact Or.inl rfl | exact Or.inr rfl) (pe_make T.K_Reader (ok_Reader_init T) (hr.mono (by decide)) (by rfl) T.g_Reader T.b_Reader_init_1 T.v_Reader_init_1 pass0 (pa_cons (pv 3) pa_nil)))) pss_nil))
      (pss_one (ps_expr (pe_bmZ (K := K) rfl PySem.F.plainAttrs_list PySem.F.slot_list_append PySem.F.type_list_append mt_append (pv 6) (pa_cons (pe_disp (pps_cons pe_str (pv 9) (pps_cons pe_str (pv 4) (pps_cons pe_str (pe_op op_mulZ pe_int (pe_callB (call_lenZ (K := K) rfl) (by rfl) T.z_len PySem.boot_len (pa_cons (pv 2) pa_nil))) (pps_cons pe_str (pe_op op_mulZ pe_int (pe_op op_sub (pe_callB (call_lenZ (K := K) rfl) (by rfl) T.z_len PySem.boot_len (pa_cons (pv 2) pa_nil)) (pv 8))) pps_nil)))) (by rfl) (by rfl) (fun z => by cases z) (by decide)) pa_nil)))))))))
      (pss_cons (ps_expr (pe_bm0Z (K := K) rfl PySem.F.plainAttrs_list PySem.F.slot_list_reverse PySem.F.type_list_reverse mt_reverse (pv 3)))
      (pss_cons (ps_expr (pe_bmZ (K := K) rfl PySem.F.plainAttrs_list PySem.F.slot_list_append PySem.F.type_list_append mt_append (pv 3) (pa_cons pe_int pa_nil)))
      (pss_cons (ps_if (pt_not (pt_truthZ (K := K) rfl (pe_callB (cr_allZ (K := K) rfl rfl) (by rfl) T.z_all (by decide +kernel) (pa_cons (pe_lc (own := [("_law_now", 11)]) rfl sc_law.nd (pi_listZ (K := K) rfl (pv 6)) (blkOk_by (N := ["_law_script", "_law_cell", "_law_row_here", "_law_handed", "_law_whole_here", "_law_byte", "_law_states", "_law_k", "_law_begin", "_law_reader", "_law_one", "_law_now"]) (sc := defScope s_law) (by decide +kernel)) (fun _ _ _ _ _ => (pg_name (i := 11) sc_law.nd rfl (by first | exact Or.inl rfl | exact Or.inr rfl))) (fun _ _ _ _ _ => pts_nil) (fun _ _ _ _ _ => (pe_callZ (ok_l_stands T) (hr.mono (by decide)) (by rfl) T.g_l_stands T.F_l_stands.kp T.b_l_stands pass0 (pa_cons (pv 11) pa_nil)))) pa_nil)) (by intro _; rfl))) (pss_one (ps_ret pe_bl)) pss_nil)
      (pss_cons (ps_for PassesOwn.never rfl (pi_listZ (K := K) rfl (pe_slice (sl_Z (K := K) rfl) (pv 0) (po_some pe_int) (po_some pe_int))) (pg_name (i := 10) sc_law.nd rfl (by first | exact Or.inl rfl | exact Or.inr rfl)) (pss_cons (ps_if (pt_not (pt_truthZ (K := K) rfl (pe_callZ (ok_l_step T) (hr.mono (by decide)) (by rfl) T.g_l_step T.F_l_step.kp T.b_l_step pass0 (pa_cons (pe_ix (ix_seqZ (K := K) rfl) (pv 6) (pe_op op_mod (pe_callZ (ok_l_mixed T) (hr.mono (by decide)) (by rfl) T.g_l_mixed T.F_l_mixed.kp T.b_l_mixed pass0 (pa_cons (pv 10) (pa_cons pe_int pa_nil))) pe_int) (fun _ _ => rfl)) (pa_cons (pv 10) pa_nil))) (by intro _; rfl))) (pss_one (ps_ret pe_bl)) pss_nil)
      (pss_one (ps_if (pt_not (pt_truthZ (K := K) rfl (pe_callB (cr_allZ (K := K) rfl rfl) (by rfl) T.z_all (by decide +kernel) (pa_cons (pe_lc (own := [("_law_now", 11)]) rfl sc_law.nd (pi_listZ (K := K) rfl (pv 6)) (blkOk_by (N := ["_law_script", "_law_cell", "_law_row_here", "_law_handed", "_law_whole_here", "_law_byte", "_law_states", "_law_k", "_law_begin", "_law_reader", "_law_one", "_law_now"]) (sc := defScope s_law) (by decide +kernel)) (fun _ _ _ _ _ => (pg_name (i := 11) sc_law.nd rfl (by first | exact Or.inl rfl | exact Or.inr rfl))) (fun _ _ _ _ _ => pts_nil) (fun _ _ _ _ _ => (pe_callZ (ok_l_stands T) (hr.mono (by decide)) (by rfl) T.g_l_stands T.F_l_stands.kp T.b_l_stands pass0 (pa_cons (pv 11) pa_nil)))) pa_nil)) (by intro _; rfl))) (pss_one (ps_ret pe_bl)) pss_nil))))
      (pss_one (ps_ret pe_bl))))))))))))), ?_⟩
    walk_at "z0"
    refine call_cell hS (by decide) fun c0 => ?_
    walk_at "z"
    refine call_cell hS (by decide) fun c1 => ?_
    walk_at "z"
    refine call_rowM (m := 40) (by decide) fun row rA hB hrl hrA => ?_
    walk_at "z"
    refine z_list (SqL.of upd_same) fun hA hhA => ?_
    have er : row = rowOf row.length (numOf row) := (row_num _ row rfl hB).symm
    walk_at "z"
    refine ⟨rA, rfl, ⟨_, SqL.of (get_new hhA upd_same)⟩, ?_⟩
    have srA : Same H (upd (upd H rA (.lst (row.map V.int))) hA (.lst (row.map V.int))) := same_new (same_new (Same.refl _) hrA) hhA
    have gA : upd (upd H rA (.lst (row.map V.int))) hA (.lst (row.map V.int)) rA = some (.lst (row.map V.int)) := get_new hhA upd_same
    have gH : upd (upd H rA (.lst (row.map V.int))) hA (.lst (row.map V.int)) hA = some (.lst (row.map V.int)) := upd_same
    have nAH : rA ≠ hA := (ne_new hhA).symm
    generalize upd (upd H rA (.lst (row.map V.int))) hA (.lst (row.map V.int)) = G at srA gA gH
    have hA0 : H hA = none := none_new hhA
    clear hhA hrA nd
    refine p_ints (ns := row) (fun i σ' H' => ∃ v, σ' = [some (.ref a), some (.int c0), some (.ref rA), some (.ref hA), some (.int (numOf (row.take i) : Int)), v, none, none, none, none, none, none] ∧ H' = G) ⟨none, rfl, rfl⟩ ?_ ?_ ?_
    · rintro i σ' H' _ ⟨_, _, rfl⟩
      exact SqL.of gA
    · rintro i c σ' H' hi ⟨v, rfl, rfl⟩
      have hc := hB c (List.mem_of_getElem? hi)
      walk_at "z"
      refine ⟨some (.int c), ?_, rfl⟩
      rw [List.take_add_one, hi]
      show _ = ([some (.ref a), some (.int c0), some (.ref rA), some (.ref hA), some (.int (numOf (row.take i ++ [c]) : Int)), some (.int c), none, none, none, none, none, none] : St)
      rw [num_snoc, show ((256 * numOf (row.take i) + c.toNat : Nat) : Int) = 256 * (numOf (row.take i) : Int) + c by omega]
      rfl
    · rintro σ' H' ⟨v5, rfl, rfl⟩
      rw [List.take_length]
      generalize hn : row.length = n at hrl er
      generalize hW : numOf row = W at er
      subst er
      walk_at "z"
      refine ⟨by show 0 ≤ sizeLine; decide, fun sl hsl => ?_⟩
      walk_at "z"
      refine p_range (fun i σ' G => ∃ (ss : List RS) (v7 v8 v9 : Option V), σ' = [some (.ref a), some (.int c0), some (.ref rA), some (.ref hA), some (.int (W : Int)), v5, some (.ref sl), v7, v8, v9, none, none] ∧ ss.length = i ∧ Sts T.C_Reader G n W sl ss ∧ Same H' G ∧ ∀ (i : Nat) (s : RS), ss[i]? = some s → s.l ≠ hA)
        ⟨[], none, none, none, rfl, rfl, Sts.nil upd_same, same_new (Same.refl _) hsl, fun i s e => by simp at e⟩ ?_ ?_
      · rintro i σ' G hi ⟨ss, v7, v8, v9, rfl, hss, S, sm, nlh⟩
        have gr := sm _ _ gA
        have gh := sm _ _ gH
        have hi2 : i < 2 := hi
        walk_at "z"
        refine ⟨by show 3 ≤ sizeLine; decide, fun t1 ht1 => ?_⟩
        walk_at "z"
        have m1 := Int.emod_nonneg (c0 / (41 * (0 + (i : Int)) + 1)) (b := ((rowOf n W).length : Int) + 1) (by omega)
        have m2 := Int.emod_lt_of_pos (c0 / (41 * (0 + (i : Int)) + 1)) (b := ((rowOf n W).length : Int) + 1) (by omega)
        refine z_ixI (ns := [c0 / (41 * (0 + (i : Int)) + 1) % (((rowOf n W).length : Int) + 1), 0, ((rowOf n W).length : Int)]) (SqL.of upd_same) (by omega) (by show _ < (3 : Int); omega) ?_
        have hb := pick3 (fun y => 0 ≤ y ∧ y ≤ (n : Int)) (a := c0 / (41 * (0 + (i : Int)) + 1) % (((rowOf n W).length : Int) + 1)) (b := 0) (c := ((rowOf n W).length : Int)) (n := c0 / 41 / 41 / (3 * (0 + (i : Int)) + 1) % 3) (by omega) (by omega) (by omega) (by omega) (by omega)
        generalize ([c0 / (41 * (0 + (i : Int)) + 1) % (((rowOf n W).length : Int) + 1), 0, ((rowOf n W).length : Int)] : List Int).getD (c0 / 41 / 41 / (3 * (0 + (i : Int)) + 1) % 3).toNat 0 = b0 at hb
        have s0 := same_new (o := .lst [V.int (c0 / (41 * (0 + (i : Int)) + 1) % (((rowOf n W).length : Int) + 1)), V.int 0, V.int ((rowOf n W).length : Int)]) (Same.refl G) ht1
        generalize upd G t1 (.lst [V.int (c0 / (41 * (0 + (i : Int)) + 1) % (((rowOf n W).length : Int) + 1)), V.int 0, V.int ((rowOf n W).length : Int)]) = G0 at s0
        clear m1 m2
        obtain ⟨b, rfl⟩ := Int.eq_ofNat_of_zero_le hb.1
        have hbn : b ≤ n := by omega
        have hn2 : n ≤ 200000 := by omega
        walk_at "z"
        refine mk_r (SqL.of (s0 _ _ gh)) hbn hn2 fun p1 dx1 l1 G1 hp1 hl1 s1 R1 => ?_
        walk_at "z"
        refine z_J (fun σ2 G2 => ∃ (p dx l : Addr), σ2 = [some (.ref a), some (.int c0), some (.ref rA), some (.ref hA), some (.int (W : Int)), v5, some (.ref sl), some (.int (0 + (i : Int))), some (.int (b : Int)), some (.ref p), none, none] ∧ Same G G2 ∧ G p = none ∧ G l = none ∧ RAt T.C_Reader G2 p dx l n W (8 * b)) (fun N hN => ?_) ?_
        · walk_at "z"
          refine z_if (fun _ => ?_) (fun _ => ?_)
          · walk_at "z"
            refine mk_rk (SqL.of (s1 _ _ (s0 _ _ gh))) hbn hn2 fun p2 dx2 l2 G2 hp2 hl2 s2 R2 => ?_
            walk_at "z"
            exact hN _ _ ⟨p2, dx2, l2, rfl, (s0.trans s1).trans s2, (s0.trans s1).free hp2, (s0.trans s1).free hl2, R2⟩
          · walk_at "z"
            exact hN _ _ ⟨p1, dx1, l1, rfl, s0.trans s1, s0.free hp1, s0.free hl1, R1⟩
        · clear s0 s1 R1 hp1 hl1 ht1
          rintro σ2 G2 ⟨p1, dx1, l1, rfl, s1, hp1, hl1, R1⟩
          walk_at "z"
          refine z_J (fun σ2 G2 => ∃ (p dx l : Addr), σ2 = [some (.ref a), some (.int c0), some (.ref rA), some (.ref hA), some (.int (W : Int)), v5, some (.ref sl), some (.int (0 + (i : Int))), some (.int (b : Int)), some (.ref p), none, none] ∧ Same G G2 ∧ G p = none ∧ G l = none ∧ RAt T.C_Reader G2 p dx l n W (8 * b)) (fun N hN => ?_) ?_
          · walk_at "z"
            refine z_if (fun hb0 => ?_) (fun _ => ?_)
            · walk_at "z"
              refine z_if (fun _ => ?_) (fun _ => ?_)
              · walk_at "z"
                refine mk_r0 (SqL.of (s1 _ _ gh)) hn2 fun p2 dx2 l2 G2 hp2 hl2 s2 R2 => ?_
                walk_at "z"
                have hb00 : b = 0 := by omega
                subst hb00
                exact hN _ _ ⟨p2, dx2, l2, rfl, s1.trans s2, s1.free hp2, s1.free hl2, R2⟩
              · walk_at "z"
                exact hN _ _ ⟨p1, dx1, l1, rfl, s1, hp1, hl1, R1⟩
            · walk_at "z"
              exact hN _ _ ⟨p1, dx1, l1, rfl, s1, hp1, hl1, R1⟩
          · clear s1 R1 hp1 hl1
            rintro σ2 G2 ⟨p1, dx1, l1, rfl, s1, hp1, hl1, R1⟩
            have hs2 := s1 _ _ S.hs
            have gr2 := s1 _ _ gr
            walk_at "z"
            refine z_disp fun d hd => ?_
            walk_at "z"
            refine ⟨upd_same, dr (.ref p1) (.int (W : Int)) (.int (8 * ((rowOf n W).length : Int))) (.int (8 * (((rowOf n W).length : Int) - (b : Int)))), rfl, by show 4 ≤ 15; decide, ?_⟩
            rw [dr_merge, upd_upd]
            walk_at "z"
            refine z_app (get_new hd hs2) (by rw [List.length_map, hss]; exact Nat.lt_of_lt_of_le hi2 (by decide)) ?_
            walk_at "z"
            have hd0 : G d = none := s1.free hd
            rw [show (8 * ((rowOf n W).length : Int)) = ((8 * n : Nat) : Int) by omega, show (8 * (((rowOf n W).length : Int) - (b : Int))) = ((8 * n - 8 * b : Nat) : Int) by omega]
            refine ⟨ss ++ [(⟨d, p1, dx1, l1, 8 * b⟩ : RS)], _, _, _, rfl, by rw [List.length_append, hss]; rfl, Sts.push (s := (⟨d, p1, dx1, l1, 8 * b⟩ : RS)) ((S.same s1).same (same_new (Same.refl _) hd)) upd_same (R1.new hd) (ne_of_none S.hs hl1).symm (fun j t e => ⟨ne_of_none (S.hr j t e).hp hp1, ne_of_none (S.hd j t e) hd0⟩), ?_, ?_⟩
            · exact same_up (same_new (sm.trans s1) hd) hsl
            · intro j t e
              rcases snoc_get e with ⟨rfl, rfl⟩ | ⟨_, e⟩
              · exact (ne_of_none gh hl1).symm
              · exact nlh j t e
      · rintro σ' G ⟨ss, v7, v8, v9, rfl, hss, S, sm, nlh⟩
        have gh := sm _ _ gH
        have nls : sl ≠ hA := (ne_of_none gH hsl).symm
        walk_at "z"
        refine z_rev gh ?_
        walk_at "z"
        refine z_app upd_same (by rw [List.length_reverse, List.length_map, hn]; exact Nat.lt_of_le_of_lt hrl (by decide)) ?_
        rw [upd_upd]
        replace S := S.up (o := .lst (((rowOf n W).map V.int).reverse ++ [V.int 9])) gh nls nlh
        have sH := same_up (o := .lst (((rowOf n W).map V.int).reverse ++ [V.int 9])) (srA.trans sm) hA0
        generalize upd G hA (.lst (((rowOf n W).map V.int).reverse ++ [V.int 9])) = G2 at S sH
        clear gh sm nlh srA gA gH hA0 hsl nls hB
        have hs := S.hs
        walk_at "z"
        refine ⟨sl, rfl, ⟨_, SqL.of hs⟩, ?_⟩
        refine c_list (xs := ss.map fun s => V.ref s.d) (fun _ => V.bl true) (SqL.of hs) (fun _ => rfl) (by rw [List.length_map, hss]; decide) ?_ ?_
        · intro i x H1 R hi s' r
          dsimp only [wipe, List.set]
          rw [List.getElem?_map] at hi
          obtain ⟨t, ht, rfl⟩ := Option.map_eq_some_iff.mp hi
          walk_at "z"
          exact call_stands (S.same s') ht r
        · intro D hD
          walk_at "z"
          refine z_allT (SqL.of upd_same) ?_
          replace S := S.same (same_new (o := .lst ((ss.map fun s => V.ref s.d).map fun _ => V.bl true)) (Same.refl _) hD)
          replace sH := same_new (o := .lst ((ss.map fun s => V.ref s.d).map fun _ => V.bl true)) sH hD
          generalize upd G2 D (.lst ((ss.map fun s => V.ref s.d).map fun _ => V.bl true)) = G3 at S sH
          walk_at "z"
          refine z_slPartI (by decide) (by decide) (sH.seq hS) fun t ht => ?_
          walk_at "z"
          generalize (sc.drop (2 : Int).toNat).take ((42 : Int).toNat - (2 : Int).toNat) = items
          refine ⟨t, rfl, ⟨_, SqL.of upd_same⟩, p_ints (ns := items) (fun i σ' H' => ∃ (ss : List RS) (v10 v11 : Option V), σ' = [some (.ref a), some (.int c0), some (.ref rA), some (.ref hA), some (.int (W : Int)), v5, some (.ref sl), v7, v8, v9, v10, v11] ∧ ss.length = 2 ∧ Sts T.C_Reader H' n W sl ss ∧ H' t = some (.lst (items.map V.int))) ⟨ss, none, none, rfl, hss, S.same (same_new (Same.refl _) ht), upd_same⟩ ?_ ?_ ?_⟩
          · rintro i σ' H' _ ⟨_, _, _, _, _, _, e⟩
            exact SqL.of e
          · clear S sH hD ht hs hss
            rintro i c σ' H1 hi ⟨ss, v10, v11, rfl, hss, S, et⟩
            walk_at "z"
            refine call_mixed (by omega) (by omega) fun n1 a1 b1 => ?_
            walk_at "z"
            obtain ⟨j, t1, hat, ht1⟩ : ∃ (j : Nat) (t1 : RS), atI (ss.map fun s => V.ref s.d) (n1 % 2) = some (.ref t1.d) ∧ ss[j]? = some t1 := by
              match ss, hss with
              | [s0, s1], _ =>
                have hidx : n1 % 2 = 0 ∨ n1 % 2 = 1 := by omega
                rcases hidx with h | h
                · exact ⟨0, s0, by rw [h]; rfl, rfl⟩
                · exact ⟨1, s1, by rw [h]; rfl, rfl⟩
            refine z_ixL (SqL.of S.hs) hat ?_
            walk_at "z"
            refine call_step S (by omega) ht1 fun y H2 hy s2 => ?_
            have et2 : upd (rSet T.C_Reader H1 t1.p t1.dx t1.l y) t1.d (rdW t1.p n W y) t = some (.lst (items.map V.int)) := get_ne (ne_of et (S.hd j t1 ht1) (by intro z; cases z)) (get_ne (ne_of et (S.hr j t1 ht1).hp (by intro z; cases z)) et)
            replace et := s2 _ _ et2
            replace S := (S.set ht1 hy).same s2
            generalize hss2 : ss.set j ⟨t1.d, t1.p, t1.dx, t1.l, y⟩ = ss2 at S
            have hlen2 : ss2.length = 2 := by rw [← hss2, List.length_set, hss]
            clear et2 s2 hss2 hat ht1 hss
            have hs := S.hs
            walk_at "z"
            refine ⟨sl, rfl, ⟨_, SqL.of hs⟩, ?_⟩
            refine c_list (xs := ss2.map fun s => V.ref s.d) (fun _ => V.bl true) (SqL.of hs) (fun _ => rfl) (by rw [List.length_map, hlen2]; decide) ?_ ?_
            · intro i x H1 R hi s' r
              dsimp only [wipe, List.set]
              rw [List.getElem?_map] at hi
              obtain ⟨t, ht, rfl⟩ := Option.map_eq_some_iff.mp hi
              walk_at "z"
              exact call_stands (S.same s') ht r
            · intro D hD
              walk_at "z"
              refine z_allT (SqL.of upd_same) ?_
              walk_at "z"
              exact ⟨ss2, _, _, rfl, hlen2, S.same (same_new (Same.refl _) hD), get_new hD et⟩
          · rintro σ' H' ⟨_, _, _, rfl, _⟩
            walk_at "z"
            exact q _
end
theorem all_mk {l : PySem.W.OpenLaw} {w : World} {K : PySem.W.Frag} {h : Heap} {mg : Str → Option Value} {fa f0 f1 f2 f3 f4 f5 f6 f7 f8 f9 f10 f11 f12 f13 f14 C_Reader : Addr} (X : K.In h) (G : h.Ns mainGlobals mg) (hfa : mg "law" = some (.ref fa))
    {od0 an0 : Option Addr} {sl0 : Array (Option Value)} {oc0 kV0 dc0 pm0 cd0 ct0 : Value}
    {od1 an1 : Option Addr} {sl1 : Array (Option Value)} {oc1 kV1 dc1 pm1 cd1 ct1 : Value}
    {od2 an2 : Option Addr} {sl2 : Array (Option Value)} {oc2 kV2 dc2 pm2 cd2 ct2 : Value}
    {T2 : Addr} {o2 : Obj} {n2 : Nat} {w2_0 : Value}
    {od3 an3 : Option Addr} {sl3 : Array (Option Value)} {oc3 kV3 dc3 pm3 cd3 ct3 : Value}
    {od4 an4 : Option Addr} {sl4 : Array (Option Value)} {oc4 kV4 dc4 pm4 cd4 ct4 : Value}
    {od5 an5 : Option Addr} {sl5 : Array (Option Value)} {oc5 kV5 dc5 pm5 cd5 ct5 : Value}
    {od6 an6 : Option Addr} {sl6 : Array (Option Value)} {oc6 kV6 dc6 pm6 cd6 ct6 : Value}
    {od7 an7 : Option Addr} {sl7 : Array (Option Value)} {oc7 kV7 dc7 pm7 cd7 ct7 : Value}
    {od8 an8 : Option Addr} {sl8 : Array (Option Value)} {oc8 kV8 dc8 pm8 cd8 ct8 : Value}
    {od9 an9 : Option Addr} {sl9 : Array (Option Value)} {oc9 kV9 dc9 pm9 cd9 ct9 : Value}
    {od10 an10 : Option Addr} {sl10 : Array (Option Value)} {oc10 kV10 dc10 pm10 cd10 ct10 : Value}
    {od11 an11 : Option Addr} {sl11 : Array (Option Value)} {oc11 kV11 dc11 pm11 cd11 ct11 : Value}
    {od12 an12 : Option Addr} {sl12 : Array (Option Value)} {oc12 kV12 dc12 pm12 cd12 ct12 : Value}
    {od13 an13 : Option Addr} {sl13 : Array (Option Value)} {oc13 kV13 dc13 pm13 cd13 ct13 : Value}
    {od14 an14 : Option Addr} {sl14 : Array (Option Value)} {oc14 kV14 dc14 pm14 cd14 ct14 : Value}
    {u_MOST_BITS : Value}
    (a0 : PySem.W.nsIn K mainGlobals "is_whole" = some (some (.ref f0)))
    (l0 : K.lookup f0 = some ⟨oc0, od0, .func (PySem.W.fnOf "is_whole" "is_whole" (defArgs s_is_whole) (defBody s_is_whole) (defScope s_is_whole) .none kV0 dc0 pm0 an0 cd0 ct0), sl0⟩)
    (c0 : PySem.W.codeIn K cd0 "is_whole" = true) (k0 : PySem.W.keepIn K (.ref f0) = true)
    (a1 : PySem.W.nsIn K mainGlobals "refuse_unless" = some (some (.ref f1)))
    (l1 : K.lookup f1 = some ⟨oc1, od1, .func (PySem.W.fnOf "refuse_unless" "refuse_unless" (defArgs s_refuse_unless) (defBody s_refuse_unless) (defScope s_refuse_unless) .none kV1 dc1 pm1 an1 cd1 ct1), sl1⟩)
    (c1 : PySem.W.codeIn K cd1 "refuse_unless" = true) (k1 : PySem.W.keepIn K (.ref f1) = true)
    (a2 : PySem.W.findIn K (.ref C_Reader) "__init__" = some (some (.ref f2)))
    (i2 : PySem.W.isFn K (.ref f2) = true)
    (l2 : K.lookup f2 = some ⟨oc2, od2, .func (PySem.W.fnOf "__init__" "Reader.__init__" (defArgs s_Reader_init) (defBody s_Reader_init) (defScope s_Reader_init) (.ref T2) kV2 dc2 pm2 an2 cd2 ct2), sl2⟩)
    (c2 : PySem.W.codeIn K cd2 "Reader.__init__" = true) (k2 : PySem.W.keepIn K (.ref f2) = true)
    (t2 : K.lookup T2 = some o2) (s2 : o2.data = .seq (List.toArray [w2_0]) n2)
    (r_d2_0 : RelV (V.int 0) w2_0)
    (a3 : PySem.W.findIn K (.ref C_Reader) "left" = some (some (.ref f3)))
    (i3 : PySem.W.isFn K (.ref f3) = true)
    (l3 : K.lookup f3 = some ⟨oc3, od3, .func (PySem.W.fnOf "left" "Reader.left" (defArgs s_Reader_left) (defBody s_Reader_left) (defScope s_Reader_left) .none kV3 dc3 pm3 an3 cd3 ct3), sl3⟩)
    (c3 : PySem.W.codeIn K cd3 "Reader.left" = true) (k3 : PySem.W.keepIn K (.ref f3) = true)
    (a4 : PySem.W.findIn K (.ref C_Reader) "take" = some (some (.ref f4)))
    (i4 : PySem.W.isFn K (.ref f4) = true)
    (l4 : K.lookup f4 = some ⟨oc4, od4, .func (PySem.W.fnOf "take" "Reader.take" (defArgs s_Reader_take) (defBody s_Reader_take) (defScope s_Reader_take) .none kV4 dc4 pm4 an4 cd4 ct4), sl4⟩)
    (c4 : PySem.W.codeIn K cd4 "Reader.take" = true) (k4 : PySem.W.keepIn K (.ref f4) = true)
    (a5 : PySem.W.findIn K (.ref C_Reader) "place" = some (some (.ref f5)))
    (i5 : PySem.W.isFn K (.ref f5) = true)
    (l5 : K.lookup f5 = some ⟨oc5, od5, .func (PySem.W.fnOf "place" "Reader.place" (defArgs s_Reader_place) (defBody s_Reader_place) (defScope s_Reader_place) .none kV5 dc5 pm5 an5 cd5 ct5), sl5⟩)
    (c5 : PySem.W.codeIn K cd5 "Reader.place" = true) (k5 : PySem.W.keepIn K (.ref f5) = true)
    (a6 : PySem.W.findIn K (.ref C_Reader) "ended" = some (some (.ref f6)))
    (i6 : PySem.W.isFn K (.ref f6) = true)
    (l6 : K.lookup f6 = some ⟨oc6, od6, .func (PySem.W.fnOf "ended" "Reader.ended" (defArgs s_Reader_ended) (defBody s_Reader_ended) (defScope s_Reader_ended) .none kV6 dc6 pm6 an6 cd6 ct6), sl6⟩)
    (c6 : PySem.W.codeIn K cd6 "Reader.ended" = true) (k6 : PySem.W.keepIn K (.ref f6) = true)
    (a7 : PySem.W.nsIn K mainGlobals "_law_cell_at" = some (some (.ref f7)))
    (l7 : K.lookup f7 = some ⟨oc7, od7, .func (PySem.W.fnOf "_law_cell_at" "_law_cell_at" (defArgs s_l_cell_at) (defBody s_l_cell_at) (defScope s_l_cell_at) .none kV7 dc7 pm7 an7 cd7 ct7), sl7⟩)
    (c7 : PySem.W.codeIn K cd7 "_law_cell_at" = true) (k7 : PySem.W.keepIn K (.ref f7) = true)
    (a8 : PySem.W.nsIn K mainGlobals "_law_mixed" = some (some (.ref f8)))
    (l8 : K.lookup f8 = some ⟨oc8, od8, .func (PySem.W.fnOf "_law_mixed" "_law_mixed" (defArgs s_l_mixed) (defBody s_l_mixed) (defScope s_l_mixed) .none kV8 dc8 pm8 an8 cd8 ct8), sl8⟩)
    (c8 : PySem.W.codeIn K cd8 "_law_mixed" = true) (k8 : PySem.W.keepIn K (.ref f8) = true)
    (a9 : PySem.W.nsIn K mainGlobals "_law_whole" = some (some (.ref f9)))
    (l9 : K.lookup f9 = some ⟨oc9, od9, .func (PySem.W.fnOf "_law_whole" "_law_whole" (defArgs s_l_whole) (defBody s_l_whole) (defScope s_l_whole) .none kV9 dc9 pm9 an9 cd9 ct9), sl9⟩)
    (c9 : PySem.W.codeIn K cd9 "_law_whole" = true) (k9 : PySem.W.keepIn K (.ref f9) = true)
    (a10 : PySem.W.nsIn K mainGlobals "_law_row" = some (some (.ref f10)))
    (l10 : K.lookup f10 = some ⟨oc10, od10, .func (PySem.W.fnOf "_law_row" "_law_row" (defArgs s_l_row) (defBody s_l_row) (defScope s_l_row) .none kV10 dc10 pm10 an10 cd10 ct10), sl10⟩)
    (c10 : PySem.W.codeIn K cd10 "_law_row" = true) (k10 : PySem.W.keepIn K (.ref f10) = true)
    (a11 : PySem.W.nsIn K mainGlobals "_law_taken" = some (some (.ref f11)))
    (l11 : K.lookup f11 = some ⟨oc11, od11, .func (PySem.W.fnOf "_law_taken" "_law_taken" (defArgs s_l_taken) (defBody s_l_taken) (defScope s_l_taken) .none kV11 dc11 pm11 an11 cd11 ct11), sl11⟩)
    (c11 : PySem.W.codeIn K cd11 "_law_taken" = true) (k11 : PySem.W.keepIn K (.ref f11) = true)
    (a12 : PySem.W.nsIn K mainGlobals "_law_stands" = some (some (.ref f12)))
    (l12 : K.lookup f12 = some ⟨oc12, od12, .func (PySem.W.fnOf "_law_stands" "_law_stands" (defArgs s_l_stands) (defBody s_l_stands) (defScope s_l_stands) .none kV12 dc12 pm12 an12 cd12 ct12), sl12⟩)
    (c12 : PySem.W.codeIn K cd12 "_law_stands" = true) (k12 : PySem.W.keepIn K (.ref f12) = true)
    (a13 : PySem.W.nsIn K mainGlobals "_law_step" = some (some (.ref f13)))
    (l13 : K.lookup f13 = some ⟨oc13, od13, .func (PySem.W.fnOf "_law_step" "_law_step" (defArgs s_l_step) (defBody s_l_step) (defScope s_l_step) .none kV13 dc13 pm13 an13 cd13 ct13), sl13⟩)
    (c13 : PySem.W.codeIn K cd13 "_law_step" = true) (k13 : PySem.W.keepIn K (.ref f13) = true)
    (a14 : PySem.W.nsIn K mainGlobals "law" = some (some (.ref f14)))
    (l14 : K.lookup f14 = some ⟨oc14, od14, .func (PySem.W.fnOf "law" "law" (defArgs s_law) (defBody s_law) (defScope s_law) .none kV14 dc14 pm14 an14 cd14 ct14), sl14⟩)
    (c14 : PySem.W.codeIn K cd14 "law" = true) (k14 : PySem.W.keepIn K (.ref f14) = true)
    (qC_Reader : PySem.W.nsIn K mainGlobals "Reader" = some (some (.ref C_Reader)))
    (pgC_Reader : PySem.W.plainGet K C_Reader Str.empty = true) (hdC_Reader : PySem.W.hasDictIn K C_Reader = true) (poC_Reader : PySem.W.plainOver K C_Reader = true) (saC_Reader : PySem.W.findIn K (.ref C_Reader) "__setattr__" = some (some (.builtin "object.__setattr__"))) (mkC_Reader : PySem.W.makesIn K C_Reader = true) (kcC_Reader : PySem.W.keepIn K (.ref C_Reader) = true)
    (nC_Reader_bytes : PySem.W.findIn K (.ref C_Reader) "bytes" = some none)
    (nC_Reader_next : PySem.W.findIn K (.ref C_Reader) "next" = some none)
    (z_all : PySem.W.nsIn K mainGlobals "all" = some none)
    (z_bool : PySem.W.nsIn K mainGlobals "bool" = some none)
    (z_int : PySem.W.nsIn K mainGlobals "int" = some none)
    (z_isinstance : PySem.W.nsIn K mainGlobals "isinstance" = some none)
    (z_len : PySem.W.nsIn K mainGlobals "len" = some none)
    (z_list : PySem.W.nsIn K mainGlobals "list" = some none)
    (z_min : PySem.W.nsIn K mainGlobals "min" = some none)
    (z_range : PySem.W.nsIn K mainGlobals "range" = some none)
    (m_MOST_BITS : PySem.W.nsIn K mainGlobals "MOST_BITS" = some (some u_MOST_BITS)) (r_MOST_BITS : RelV (.int 64) u_MOST_BITS) :
    ∃ fd : FuncData, (∀ (s : Shared) (v : Value), BindsTo s fd ⟨[v], []⟩ [("_law_script", v)]) ∧ ∀ base : Heap, K.In base → base.Ns mainGlobals mg → FnOk l.prog w K mg base CX0 7 fa fd ["_law_script"] (spLaw K) := by
  have e := hfa.symm.trans (PySem.W.mg_of X G a14)
  cases e
  have F0 := fun_mk (st := s_is_whole) l0 c0 k0
  have b0 := F0.binds (ps := ["thing"]) fun _ _ _ _ _ _ us hl => match us, hl with | [_], _ => rfl
  have F1 := fun_mk (st := s_refuse_unless) l1 c1 k1
  have b1 := F1.binds (ps := ["good"]) fun _ _ _ _ _ _ us hl => match us, hl with | [_], _ => rfl
  have F2 := fd_mk (st := s_Reader_init) l2 c2 k2 t2 s2 (dvs := [V.int 0]) (.cons r_d2_0 .nil) (by intro z; cases z)
  obtain ⟨ds2_0, v2_0, b2_0⟩ := F2.binds1 (ps := ["self", "row", "at"]) 3 1 (by intro z; cases z) rfl fun _ _ _ _ _ _ _ us its hl hi => match us, hl, its, hi with | [_, _, _], _, [_], _ => ⟨_, rfl, rfl⟩
  obtain ⟨ds2_1, v2_1, b2_1⟩ := F2.binds1 (ps := ["self", "row", "at"]) 2 0 (by intro z; cases z) rfl fun _ _ _ _ _ _ _ us its hl hi => match us, hl, its, hi with | [_, _], _, [_], _ => ⟨_, rfl, rfl⟩
  cases v2_0
  obtain ⟨its_Reader_init_at, kb_Reader_init_at⟩ := F2.kbindsD (ps := ["self", "row", "at"]) 2 ["at"] (fun us its ws => us ++ ws) (by intro z; cases z) (fun r1 r2 r3 => (r1.append r3)) fun _ _ _ _ _ _ _ us its ws hl hi hw => match us, hl, its, hi, ws, hw with | [_, _], _, [_], _, [_], _ => ⟨_, rfl, rfl⟩
  have F3 := fun_mk (st := s_Reader_left) l3 c3 k3
  have b3 := F3.binds (ps := ["self"]) fun _ _ _ _ _ _ us hl => match us, hl with | [_], _ => rfl
  have F4 := fun_mk (st := s_Reader_take) l4 c4 k4
  have b4 := F4.binds (ps := ["self", "many"]) fun _ _ _ _ _ _ us hl => match us, hl with | [_, _], _ => rfl
  have F5 := fun_mk (st := s_Reader_place) l5 c5 k5
  have b5 := F5.binds (ps := ["self"]) fun _ _ _ _ _ _ us hl => match us, hl with | [_], _ => rfl
  have F6 := fun_mk (st := s_Reader_ended) l6 c6 k6
  have b6 := F6.binds (ps := ["self"]) fun _ _ _ _ _ _ us hl => match us, hl with | [_], _ => rfl
  have F7 := fun_mk (st := s_l_cell_at) l7 c7 k7
  have b7 := F7.binds (ps := ["_law_script", "_law_k"]) fun _ _ _ _ _ _ us hl => match us, hl with | [_, _], _ => rfl
  have F8 := fun_mk (st := s_l_mixed) l8 c8 k8
  have b8 := F8.binds (ps := ["_law_cell", "_law_k"]) fun _ _ _ _ _ _ us hl => match us, hl with | [_, _], _ => rfl
  have F9 := fun_mk (st := s_l_whole) l9 c9 k9
  have b9 := F9.binds (ps := ["_law_found"]) fun _ _ _ _ _ _ us hl => match us, hl with | [_], _ => rfl
  have F10 := fun_mk (st := s_l_row) l10 c10 k10
  have b10 := F10.binds (ps := ["_law_cell", "_law_most"]) fun _ _ _ _ _ _ us hl => match us, hl with | [_, _], _ => rfl
  have F11 := fun_mk (st := s_l_taken) l11 c11 k11
  have b11 := F11.binds (ps := ["_law_now", "_law_many"]) fun _ _ _ _ _ _ us hl => match us, hl with | [_, _], _ => rfl
  have F12 := fun_mk (st := s_l_stands) l12 c12 k12
  have b12 := F12.binds (ps := ["_law_now"]) fun _ _ _ _ _ _ us hl => match us, hl with | [_], _ => rfl
  have F13 := fun_mk (st := s_l_step) l13 c13 k13
  have b13 := F13.binds (ps := ["_law_now", "_law_cell"]) fun _ _ _ _ _ _ us hl => match us, hl with | [_, _], _ => rfl
  have F14 := fun_mk (st := s_law) l14 c14 k14
  have b14 := F14.binds (ps := ["_law_script"]) fun _ _ _ _ _ _ us hl => match us, hl with | [_], _ => rfl
  exact ⟨_, fun s v => .of_eq rfl, fun base _ _ => ok_law (K := K) (mg := mg) { a_is_whole := f0, d_is_whole := _, F_is_whole := F0, b_is_whole := b0, g_is_whole := PySem.W.mg_of X G a0, a_refuse_unless := f1, d_refuse_unless := _, F_refuse_unless := F1, b_refuse_unless := b1, g_refuse_unless := PySem.W.mg_of X G a1, a_Reader_init := f2, d_Reader_init := _, F_Reader_init := F2, b_Reader_init := b2_0, ds_Reader_init_1 := ds2_1, v_Reader_init_1 := v2_1, b_Reader_init_1 := b2_1, its_Reader_init_at := its_Reader_init_at, kb_Reader_init_at := kb_Reader_init_at, a_Reader_left := f3, d_Reader_left := _, F_Reader_left := F3, b_Reader_left := b3, a_Reader_take := f4, d_Reader_take := _, F_Reader_take := F4, b_Reader_take := b4, a_Reader_place := f5, d_Reader_place := _, F_Reader_place := F5, b_Reader_place := b5, a_Reader_ended := f6, d_Reader_ended := _, F_Reader_ended := F6, b_Reader_ended := b6, a_l_cell_at := f7, d_l_cell_at := _, F_l_cell_at := F7, b_l_cell_at := b7, g_l_cell_at := PySem.W.mg_of X G a7, a_l_mixed := f8, d_l_mixed := _, F_l_mixed := F8, b_l_mixed := b8, g_l_mixed := PySem.W.mg_of X G a8, a_l_whole := f9, d_l_whole := _, F_l_whole := F9, b_l_whole := b9, g_l_whole := PySem.W.mg_of X G a9, a_l_row := f10, d_l_row := _, F_l_row := F10, b_l_row := b10, g_l_row := PySem.W.mg_of X G a10, a_l_taken := f11, d_l_taken := _, F_l_taken := F11, b_l_taken := b11, g_l_taken := PySem.W.mg_of X G a11, a_l_stands := f12, d_l_stands := _, F_l_stands := F12, b_l_stands := b12, g_l_stands := PySem.W.mg_of X G a12, a_l_step := f13, d_l_step := _, F_l_step := F13, b_l_step := b13, g_l_step := PySem.W.mg_of X G a13, a_law := fa, d_law := _, F_law := F14, b_law := b14, g_law := PySem.W.mg_of X G a14, C_Reader := C_Reader, g_Reader := PySem.W.mg_of X G qC_Reader, cl_Reader := ⟨pgC_Reader, hdC_Reader, poC_Reader, saC_Reader⟩, n_Reader_bytes := nC_Reader_bytes, n_Reader_next := nC_Reader_next, K_Reader := ⟨mkC_Reader, a2, i2, kcC_Reader⟩, M_Reader_left := ⟨a3, i3, k3⟩, M_Reader_take := ⟨a4, i4, k4⟩, M_Reader_place := ⟨a5, i5, k5⟩, M_Reader_ended := ⟨a6, i6, k6⟩, z_all := PySem.W.mg_none_of X G z_all, z_bool := PySem.W.mg_none_of X G z_bool, z_int := PySem.W.mg_none_of X G z_int, z_isinstance := PySem.W.mg_none_of X G z_isinstance, z_len := PySem.W.mg_none_of X G z_len, z_list := PySem.W.mg_none_of X G z_list, z_min := PySem.W.mg_none_of X G z_min, z_range := PySem.W.mg_none_of X G z_range, u_MOST_BITS := u_MOST_BITS, m_MOST_BITS := PySem.W.mg_of X G m_MOST_BITS, r_MOST_BITS := r_MOST_BITS }⟩
theorem walk {l : PySem.W.OpenLaw} {q : Program} {loose : List Str} {XP : (Str → Option Value) → Heap → Prop} {YP : World → Heap → Prop} {d : DefRec} {K : Params → PySem.W.Frag} (hn : l.most = some 63) (hdf : d.params.defaults = [])
    (hY : ∀ (w : World) (h : Heap), YP w h → (K w.params).In h)
    (F : ∀ (w : World) (mg : Str → Option Value) (fa : Addr) (h : Heap), (K w.params).In h → h.Ns mainGlobals mg → mg d.name = some (.ref fa) →
      ∃ fd : FuncData, (∀ (s : Shared) (u : Value), BindsTo s fd ⟨[u], []⟩ [("_law_script", u)]) ∧ ∀ base : Heap, (K w.params).In base → base.Ns mainGlobals mg → FnOk l.prog w (K w.params) mg base CX0 7 fa fd ["_law_script"] (spLaw (K w.params))) :
    PySem.W.WalkO q loose XP YP l.row.toRowW d [] (fun f vs => PySem.call f vs) :=
  L2.walk_of (n := 63) (k := 7) (x := "_law_script") (CX := fun _ => CX0) (sp := fun w => spLaw (K w.params)) hn (by decide) hdf ⟨rfl, by decide, by decide⟩ hY F (fun _ _ a ns hl hO hS => ⟨a, ns, rfl, hS, hl, Z.only_nd hO, fun _ => rfl⟩) fun _ _ _ _ _ z => z
end K02
open PySem PySem.W PyProof.Rows in
set_option maxRecDepth 100000 in
set_option maxHeartbeats 0 in
theorem PySem.Challenge.cw_tornshelf_k02_bits_read_holds : PySem.Challenge.rw_tornshelf_k02_bits_read.Holds := by
  w_on; o_law; k_head; (case hw => w_witness2)
  k_fill
  refine K02.walk (l := PySem.Challenge.rw_tornshelf_k02_bits_read) rfl rfl (fun w h Y => PySem.W.kIn_of Y) ?F
  case F =>
    intro w mg fa h KX G hmg
    refine' K02.all_mk KX G hmg ?a0 ?l0 ?c0 ?k0 ?a1 ?l1 ?c1 ?k1 ?a2 ?i2 ?l2 ?c2 ?k2 ?t2 ?s2 ?r_d2_0 ?a3 ?i3 ?l3 ?c3 ?k3 ?a4 ?i4 ?l4 ?c4 ?k4 ?a5 ?i5 ?l5 ?c5 ?k5 ?a6 ?i6 ?l6 ?c6 ?k6 ?a7 ?l7 ?c7 ?k7 ?a8 ?l8 ?c8 ?k8 ?a9 ?l9 ?c9 ?k9 ?a10 ?l10 ?c10 ?k10 ?a11 ?l11 ?c11 ?k11 ?a12 ?l12 ?c12 ?k12 ?a13 ?l13 ?c13 ?k13 ?a14 ?l14 ?c14 ?k14 ?qC_Reader ?pgC_Reader ?hdC_Reader ?poC_Reader ?saC_Reader ?mkC_Reader ?kcC_Reader ?nC_Reader_bytes ?nC_Reader_next ?z_all ?z_bool ?z_int ?z_isinstance ?z_len ?z_list ?z_min ?z_range ?m_MOST_BITS ?r_MOST_BITS
    (case qC_Reader => k_is)
    (case a0 => k_is)
    (case l0 => k_is)
    (case c0 => k_is)
    (case k0 => k_is)
    (case a1 => k_is)
    (case l1 => k_is)
    (case c1 => k_is)
    (case k1 => k_is)
    (case a2 => k_is)
    (case i2 => k_is)
    (case l2 => k_is)
    (case c2 => k_is)
    (case k2 => k_is)
    (case t2 => k_is)
    (case s2 => exact rfl)
    (case r_d2_0 => first | exact ⟨_, rfl⟩ | rfl)
    (case a3 => k_is)
    (case i3 => k_is)
    (case l3 => k_is)
    (case c3 => k_is)
    (case k3 => k_is)
    (case a4 => k_is)
    (case i4 => k_is)
    (case l4 => k_is)
    (case c4 => k_is)
    (case k4 => k_is)
    (case a5 => k_is)
    (case i5 => k_is)
    (case l5 => k_is)
    (case c5 => k_is)
    (case k5 => k_is)
    (case a6 => k_is)
    (case i6 => k_is)
    (case l6 => k_is)
    (case c6 => k_is)
    (case k6 => k_is)
    (case a7 => k_is)
    (case l7 => k_is)
    (case c7 => k_is)
    (case k7 => k_is)
    (case a8 => k_is)
    (case l8 => k_is)
    (case c8 => k_is)
    (case k8 => k_is)
    (case a9 => k_is)
    (case l9 => k_is)
    (case c9 => k_is)
    (case k9 => k_is)
    (case a10 => k_is)
    (case l10 => k_is)
    (case c10 => k_is)
    (case k10 => k_is)
    (case a11 => k_is)
    (case l11 => k_is)
    (case c11 => k_is)
    (case k11 => k_is)
    (case a12 => k_is)
    (case l12 => k_is)
    (case c12 => k_is)
    (case k12 => k_is)
    (case a13 => k_is)
    (case l13 => k_is)
    (case c13 => k_is)
    (case k13 => k_is)
    (case a14 => k_is)
    (case l14 => k_is)
    (case c14 => k_is)
    (case k14 => k_is)
    (case pgC_Reader => k_is)
    (case hdC_Reader => k_is)
    (case poC_Reader => k_is)
    (case saC_Reader => k_is)
    (case mkC_Reader => k_is)
    (case kcC_Reader => k_is)
    (case nC_Reader_bytes => k_is)
    (case nC_Reader_next => k_is)
    (case z_all => k_is)
    (case z_bool => k_is)
    (case z_int => k_is)
    (case z_isinstance => k_is)
    (case z_len => k_is)
    (case z_list => k_is)
    (case z_min => k_is)
    (case z_range => k_is)
    (case m_MOST_BITS => k_is)
    (case r_MOST_BITS => first | exact ⟨_, rfl⟩ | rfl)

