import PyProof.Rows.All
import Wide.All
import OpenK.AllK
import Wide.FinOn
import HandS.ForMost
import HandS.IsInst
import HandS.Flow
import HandS.WideBits
import HandS.Defaults
import HandS.MakeKw
import HandS.Exc
import HandS.ExcOwn
import HandS.TryOnly
import HandS.WordsExc
import HandS.Deep
import HandS.WordsDict
import HandS.Small
import HandS.Conv
import HandS.Text
import KE.KxIndex
import HandS.Codes
import KE.SortData
import HandS.ExcInit
import HandS.ClsMeth
import HandS.ExcField
import HandS.ExcIs
import HandS.TryMany
import KE.KExcIs
import HandS.Replace
import KE.DataMinMax
import PyProof.Claim2Refuses
import KE.KEqDict
import KE.KDictSum
import HandS.Sort
import PyProof.Rows.SeqMore
import PySem.Challenge.RW_tornshelf_k31_pieces_made
set_option Elab.async false
set_option linter.all false
set_option maxRecDepth 100000
set_option maxHeartbeats 4000000
namespace Z
open PySem L2
/-! ## Forgetting what a piece of code has made and dropped -/
def isDT : HO → Bool
  | .dT _ => true
  | .frz _ u => isDT u
  | _ => false
def okA (G : Hp) (a : Addr) : HO → Prop
  | .ins _ dx _ => G dx = some (.own a)
  | .frz _ u => okA G a u
  | _ => True
def kept : HO → Bool
  | .tup _ => true
  | .frz _ _ => true
  | .tbl _ => true
  | _ => false
/-- from H on, H' was reached; G, a part of H', is all that is still told -/
structure Gc (H H' G : Hp) : Prop where
  sub : ∀ a o, G a = some o → H' a = some o
  ok : ∀ a o, G a = some o → okA G a o ∨ (H a = some o ∧ ∀ b, H b = some (.own a) → G b = some (.own a))
  keep : ∀ b o, H b = some o → kept o = true → G b = some o
  dt : (∀ a o, G a = some o → isDT o = false) ∨ ∀ b xs, H' b = some (.tup xs) → G b = some (.tup xs)
section
variable {P : Program} {w : World} {H H' G : Hp} {h : Heap} {a : Addr} {o : HO}
theorem obj_sub (x : ObjOk P w H' h a o) (k : okA G a o) (d : isDT o = false ∨ ∀ b xs, H' b = some (.tup xs) → G b = some (.tup xs)) : ObjOk P w G h a o := by
  induction o with
  | lst xs => exact x
  | tup xs => exact x
  | dK kvs => exact x
  | dT kvs =>
    rcases d with d | d
    · cases d
    · obtain ⟨z, y, xs, r, q⟩ := x
      exact ⟨z, y, xs, Paired.mapP r fun p q z => ⟨z.1, d _ _ z.2.1, z.2.2⟩, q⟩
  | set S n => exact x
  | ins C dx fs => exact ⟨k, x.2⟩
  | own y => exact x
  | xd fs => exact x
  | rng lo hi => exact x
  | frz ob u ih => exact ⟨x.1, ih x.2 k d⟩
  | tbl ps => exact x
  | met f y => exact x
  | ext φ => exact x
theorem okA_of (x : ObjOk P w H h a o) (k : ∀ b, H b = some (.own a) → G b = some (.own a)) : okA G a o := by
  induction o with
  | ins C dx fs => exact k _ x.1
  | frz ob u ih => exact ih x.2
  | _ => trivial
end
section
variable {X : Cx} {pins pins' : List (Addr × Obj)} {σ σ' : List (Option V)} {H H' G : Hp} {s s' : Shared}
theorem none_sub (g : Gc H H' G) {b : Addr} (e : H' b = none) : G b = none := by
  cases q : G b with
  | none => rfl
  | some o => rw [g.sub b o q] at e; cases e
theorem inv_gc (hk : HOk X.prog X.w H s.heap) (I : Inv X pins σ H s) (J : Inv X pins' σ' H' s') (g : Gc H H' G) : Inv X pins' σ' G s' where
  ok := J.ok
  os := J.os
  bare := J.bare
  base :=
    { keep := J.base.keep
      slot := J.base.slot
      free := fun b o q n hx => none_sub g (J.base.free b o q n hx)
      there := J.base.there
      tups := fun b xs q => g.keep b _ (I.base.tups b xs q) rfl
      frzs := fun b o u q => g.keep b _ (I.base.frzs b o u q) rfl
      tbls := fun b ps q => by
        obtain ⟨more, e⟩ := I.base.tbls b ps q
        exact ⟨more, g.keep b _ e rfl⟩ }
  loc := J.loc
  cell := J.cell
  free := none_sub g J.free
  freeC := fun x c e => none_sub g (J.freeC x c e)
  pin := fun p hp => ⟨(J.pin p hp).1, none_sub g (J.pin p hp).2.1, (J.pin p hp).2.2⟩
  hok := fun a o e => by
    have x : ObjOk X.prog X.w H' s'.heap a o := J.hok a o (g.sub a o e)
    refine obj_sub x ?_ ?_
    · rcases g.ok a o e with k | ⟨q, k⟩
      · exact k
      · exact okA_of (hk a o q) k
    · rcases g.dt with d | d
      · exact .inl (d a o e)
      · exact .inr d
  len := J.len
/-- an expression, what it made and dropped forgotten -/
def tGc (t : TE) : TE := fun σ H Q => t σ H fun v H' => ∃ G, Gc H H' G ∧ Q v G
def uGc (t : TT) : TT := fun σ H Q => t σ H fun v H' => ∃ G, Gc H H' G ∧ Q v G
def sGc (t : TS) : TS := fun D σ H => t ⟨fun σ' H' => ∃ G, Gc H H' G ∧ D.nx σ' G, fun v H' => ∃ G, Gc H H' G ∧ D.rt v G, fun σ' H' => ∃ G, Gc H H' G ∧ D.bk σ' G, fun σ' H' => ∃ G, Gc H H' G ∧ D.ct σ' G⟩ σ H
theorem pe_gc {e : Expr} {t : TE} (h : PE X e t) : PE X e (tGc t) := by
  refine ⟨fun pins s σ H Q I q => thn (h.run pins s σ H _ I q) fun u s1 ⟨v, H1, I1, r, G, g, q1⟩ => ?_⟩
  exact ⟨v, G, inv_gc I.hok I I1 g, r, q1⟩
theorem pt_gc {e : Expr} {t : TT} (h : PT X e t) : PT X e (uGc t) := by
  refine ⟨fun pins s σ H Q I q => thn (h.run pins s σ H _ I q) fun u s1 ⟨H1, I1, G, g, q1⟩ => ?_⟩
  exact ⟨G, inv_gc I.hok I I1 g, q1⟩
theorem sp_gc {pins : List (Addr × Obj)} {σ : St} {H : Hp} {s s1 : Shared} {D : Ends} {f : Flow} (I : Inv X pins σ H s)
    (q : SP X pins ⟨fun σ' H' => ∃ G, Gc H H' G ∧ D.nx σ' G, fun v H' => ∃ G, Gc H H' G ∧ D.rt v G, fun σ' H' => ∃ G, Gc H H' G ∧ D.bk σ' G, fun σ' H' => ∃ G, Gc H H' G ∧ D.ct σ' G⟩ f s1) : SP X pins D f s1 := by
  cases f with
  | next =>
    obtain ⟨σ1, H1, I1, G, g, q1⟩ := q
    exact ⟨σ1, G, inv_gc I.hok I I1 g, q1⟩
  | brk =>
    obtain ⟨σ1, H1, I1, G, g, q1⟩ := q
    exact ⟨σ1, G, inv_gc I.hok I I1 g, q1⟩
  | cont =>
    obtain ⟨σ1, H1, I1, G, g, q1⟩ := q
    exact ⟨σ1, G, inv_gc I.hok I I1 g, q1⟩
  | ret u =>
    obtain ⟨v, σ1, H1, I1, r, G, g, q1⟩ := q
    exact ⟨v, σ1, G, inv_gc I.hok I I1 g, r, q1⟩
theorem ps_gc {st : Stmt} {t : TS} (h : PS X st t) : PS X st (sGc t) := ⟨fun pins s σ H D I q => thn (h.run pins s σ H _ I q) fun _ _ q1 => sp_gc I q1⟩
theorem pss_gc {st : List Stmt} {t : TS} (h : PSs X st t) : PSs X st (sGc t) := ⟨fun pins s σ H D I q => thn (h.run pins s σ H _ I q) fun _ _ q1 => sp_gc I q1⟩
end
/-- no dict with tuples for keys -/
def ND (H : Hp) : Prop := ∀ a o, H a = some o → isDT o = false
theorem ND.upd {H : Hp} {p : Addr} {o : HO} (h : ND H) (ho : isDT o = false := by rfl) : ND (upd H p o) := fun a u e => by
  by_cases q : a = p
  · subst q; rw [upd_same] at e; cases e; exact ho
  · rw [upd_ne q] at e; exact h a u e
theorem only_nd {H : Hp} (h : L2.Only H) : ND H := fun a o e => by
  rcases h a with q | ⟨o', xs, q⟩
  · rw [q] at e; cases e
  · rw [q] at e; cases e; rfl
section
variable {H H' G H1 : Hp} {p q : Addr} {o : HO}
theorem gc_same (h : Same H H') (nd : ND H) : Gc H H' H := ⟨h, fun a o e => .inr ⟨e, fun _ q => q⟩, fun _ _ e _ => e, .inl nd⟩
/-- where no tuple is new -/
theorem gc_sameT (h : Same H H') (nt : ∀ b xs, H' b = some (.tup xs) → H b = some (.tup xs)) : Gc H H' H := ⟨h, fun a o e => .inr ⟨e, fun _ q => q⟩, fun _ _ e _ => e, .inr nt⟩
def flatO : HO → Bool
  | .ins _ _ _ => false
  | .frz _ _ => false
  | .dT _ => false
  | _ => true
theorem okA_flat {G : Hp} {a : Addr} {o : HO} (h : flatO o = true) : okA G a o := by
  cases o <;> first | trivial | cases h
theorem isDT_flat {o : HO} (h : flatO o = true) : isDT o = false := by
  cases o <;> first | rfl | cases h
theorem okA_upd {G : Hp} {a p : Addr} {o u : HO} (e : H' p = some o) (sub : ∀ a o, G a = some o → H' a = some o) (k : okA G a u) : okA (upd G p o) a u := by
  induction u with
  | ins C dx fs =>
    show upd G p o dx = _
    by_cases q : dx = p
    · subst q
      have e2 : H' dx = some (.own a) := sub _ _ k
      rw [e] at e2
      rw [upd_same, e2]
    · rw [upd_ne q]
      exact k
  | frz ob u ih => exact ih k
  | _ => trivial
theorem upd_sub {G : Hp} {p b : Addr} {o u : HO} (e : H' p = some o) (h : H' b = some u) (k : G b = some u) : upd G p o b = some u := by
  by_cases q : b = p
  · subst q
    rw [upd_same, ← e, h]
  · rw [upd_ne q]
    exact k
/-- one more thing is told -/
theorem Gc.put (g : Gc H H' G) (e : H' p = some o) (f : flatO o = true := by rfl) : Gc H H' (upd G p o) where
  sub := fun a u h => by
    by_cases q : a = p
    · subst q; rw [upd_same] at h; cases h; exact e
    · rw [upd_ne q] at h; exact g.sub a u h
  ok := fun a u h => by
    by_cases q : a = p
    · subst q; rw [upd_same] at h; cases h; exact .inl (okA_flat f)
    · rw [upd_ne q] at h
      rcases g.ok a u h with k | ⟨k1, k2⟩
      · exact .inl (okA_upd e g.sub k)
      · exact .inr ⟨k1, fun b hb => upd_sub e (g.sub _ _ (k2 b hb)) (k2 b hb)⟩
  keep := fun b u h k => upd_sub e (g.sub _ _ (g.keep b u h k)) (g.keep b u h k)
  dt := by
    rcases g.dt with d | d
    · refine .inl fun a u h => ?_
      by_cases q : a = p
      · subst q; rw [upd_same] at h; cases h; exact isDT_flat f
      · rw [upd_ne q] at h; exact d a u h
    · exact .inr fun b xs h => upd_sub e h (d b xs h)
theorem same_up (h : Same H H1) (hq : H q = none) : Same H (upd H1 q o) := fun b u e => by
  rw [upd_ne (ne_of_none e hq)]
  exact h b u e
theorem same_new (h : Same H H1) (hq : H1 q = none) : Same H (upd H1 q o) := same_up h (h.free hq)
theorem upd_none {a : Addr} : upd H p o a = none ↔ a ≠ p ∧ H a = none := by
  unfold upd
  by_cases e : a = p
  · simp [e]
  · simp [e]
end

/-! ## Rules that serve several kinds at once -/
section
variable {X : Cx}
theorem OpR.or {f : Value → Value → Sem Value} {r r' : R2} (a : OpR X f r) (b : OpR X f r') : OpR X f (fun x y H Q => r x y H Q ∨ r' x y H Q) :=
  fun pins s σ H x y v u Q I rx ry h => h.elim (fun h => a pins s σ H x y v u Q I rx ry h) fun h => b pins s σ H x y v u Q I rx ry h
theorem CallR.or {f : Value} {r r' : List V → Hp → VK → Prop} (a : CallR X f r) (b : CallR X f r') : CallR X f (fun x H Q => r x H Q ∨ r' x H Q) :=
  fun pins s σ H xs us Q I rx h => h.elim (fun h => a pins s σ H xs us Q I rx h) fun h => b pins s σ H xs us Q I rx h
/-- list + list, both to be read -/
def rCatZ (K : PySem.W.Frag) : R2 := fun x y H Q => ∃ l b xs zs, x = .ref l ∧ y = .ref b ∧ SqL K H l xs ∧ SqL K H b zs ∧ xs.length + zs.length ≤ sizeLine ∧ ∀ p, H p = none → Q (.ref p) (upd H p (.lst (xs ++ zs)))
def rAddZ (K : PySem.W.Frag) : R2 := fun x y H Q => (rI0 (fun i j => .int (i + j)) x y H Q ∨ ∃ i j, x = .str i ∧ y = .str j ∧ i.length + j.length ≤ sizeLine ∧ Q (.str (i ++ j)) H) ∨ rCatZ K x y H Q
theorem op_catZ : OpR X (binaryOp .Add) (rCatZ X.K) := by
  intro pins s σ H x y v u Q I rx ry h
  obtain ⟨l, b, xs, zs, rfl, rfl, hH, hB, hz, q⟩ := h
  cases rx
  cases ry
  obtain ⟨its, r, pl, z⟩ := I.list hH
  obtain ⟨its2, r2, pl2, z2⟩ := I.list hB
  have l1 := r.length
  have l2 := r2.length
  obtain ⟨⟨cls, dd, data, sl⟩, ho, hc, n, hd⟩ := pl.isList
  obtain ⟨⟨cls2, dd2, data2, sl2⟩, ho2, hc2, n2, hd2⟩ := pl2.isList
  simp only at hc hd hc2 hd2
  subst hc hd hc2 hd2
  have e : its.toArray ++ its2.toArray = (its ++ its2).toArray := by simp
  refine concat_meets ⟨_, ho, rfl⟩ ⟨_, ho2, rfl⟩ noFill_list_add seq_list_add PySem.F.slot_list_add PySem.F.entry_list_add (PySem.F.args_list_add_2 _ _) (PyProof.Rows.list_addW l b its.toArray its2.toArray n n2 dd dd2 sl sl2 (by simp only [List.size_toArray]; omega)) ⟨ho, ho2, ?_⟩
  rw [e]
  exact ⟨.ref _, _, I.lnew (t' := s.toks) (r.append r2) (by rw [List.length_append]; omega), rfl, q _ I.fresh⟩
theorem op_addZ {K : PySem.W.Frag} (hK : X.K = K) : OpR X (binaryOp .Add) (rAddZ K) := by subst hK; exact OpR.or (OpR.or op_add op_add_str) op_catZ
def rMulZ : R2 := fun x y H Q => rI CMul (fun i j => .int (i * j)) x y H Q ∨ rRep x y H Q
theorem op_mulZ : OpR X (binaryOp .Mult) rMulZ := OpR.or op_mul op_rep
def rEqZ (K : PySem.W.Frag) : R2 := fun x y H Q => rEq x y H Q ∨ rEqD K x y H Q
def rNeZ (K : PySem.W.Frag) : R2 := fun x y H Q => rNe x y H Q ∨ rNeD K x y H Q
theorem op_eqZ {K : PySem.W.Frag} (hK : X.K = K) (hu : X.A.units + 64 < cLine) : OpR X (compareOp .Eq) (rEqZ K) := by subst hK; exact OpR.or op_eq (op_eqD hu)
theorem op_neZ {K : PySem.W.Frag} (hK : X.K = K) (hu : X.A.units + 64 < cLine) : OpR X (compareOp .NotEq) (rNeZ K) := by subst hK; exact OpR.or op_ne (op_neD hu)
end

/-! ## Further rules -/
section
variable {X : Cx}
/-- len of a text, a list, a tuple -/
def rLenZ (K : PySem.W.Frag) : List V → Hp → VK → Prop := fun xs H Q => ∃ x n, xs = [x] ∧ LenV K x H n ∧ Q (.int n) H
theorem call_lenZ {K : PySem.W.Frag} (hK : X.K = K) : CallR X (.builtin "len") (rLenZ K) := by subst hK; exact call_len
def rSlZ (K : PySem.W.Frag) : V → Option Int → Option Int → Hp → VK → Prop := fun x lo hi H Q => rSlL K x lo hi H Q ∨ rSlS x lo hi H Q
theorem sl_Z {K : PySem.W.Frag} (hK : X.K = K) : SlR X (rSlZ K) := by subst hK; exact SlR.or sl_list sl_str
theorem ix_seqZ {K : PySem.W.Frag} (hK : X.K = K) : IxR X (rIx K) := by subst hK; exact ix_seq
def tTruZ (K : PySem.W.Frag) (ta : TE) : TT := fun σ H Q => ta σ H fun x H' => ∃ k, TruV K x H' k ∧ Q k H'
theorem pt_truthZ {K : PySem.W.Frag} {a : Expr} {ta : TE} (hK : X.K = K) (ha : PE X a ta) (he : ∀ whole, isTrue a X.env whole = (do let v ← whole; standAt a.pos; holding [v] (truthy v))) : PT X a (tTruZ K ta) := by subst hK; exact pt_truth ha he
theorem call_isiZ {K : PySem.W.Frag} (hK : X.K = K) : CallR X (.builtin "isinstance") (rIsi K) := by subst hK; exact call_isi
def rListOf (K : PySem.W.Frag) : List V → Hp → VK → Prop := fun xs H Q => ∃ p ys, xs = [.ref p] ∧ (SqL K H p ys ∨ SqT K H p ys) ∧ ∀ l, H l = none → Q (.ref l) (upd H l (.lst ys))
theorem call_listZ {K : PySem.W.Frag} (hK : X.K = K) : CallR X (.type "list") (rListOf K) := by subst hK; exact call_list_of
theorem cr_sumZ {K : PySem.W.Frag} (hK : X.K = K) (hc : X.calm = true) : CallR X (.builtin "sum") (rSum K) := by subst hK; exact cr_sum hc
theorem cr_allZ {K : PySem.W.Frag} (hK : X.K = K) (hc : X.calm = true) : CallR X (.builtin "all") (rAll K) := by subst hK; exact cr_all hc
theorem cr_anyZ {K : PySem.W.Frag} (hK : X.K = K) (hc : X.calm = true) : CallR X (.builtin "any") (rAny K) := by subst hK; exact cr_any hc
theorem cr_maxZ {K : PySem.W.Frag} (hK : X.K = K) (hc : X.calm = true) : CallR X (.builtin "max") (rMax K) := by subst hK; exact cr_max hc
theorem cr_minZ {K : PySem.W.Frag} (hK : X.K = K) (hc : X.calm = true) : CallR X (.builtin "min") (rMin K) := by subst hK; exact cr_min hc
theorem pi_listZ {K : PySem.W.Frag} {tg l : Expr} {tl : TE} (hK : X.K = K) (hl : PE X l tl) : PI X tg l (iList K tl) := by subst hK; exact pi_list hl
theorem pi_tupZ {K : PySem.W.Frag} {tg l : Expr} {tl : TE} (hK : X.K = K) (hl : PE X l tl) : PI X tg l (iTup K tl) := by subst hK; exact pi_tup hl
theorem pi_enumZ {K : PySem.W.Frag} {e : Expr} {ta : TA} {p pos tpos : Pos} {elts : List Expr} {kk : Nat} (hK : X.K = K) (hg : Gl X "enumerate") (hm : X.mg "enumerate" = none) (ha : PA X [e] ta) (hs : starEach [e] X.env = [(false, eval e X.env)] := by rfl) :
    PI X (.Tuple elts kk tpos) (.Call (.Name "enumerate" p) [e] [] pos) (iEnum K ta) := by subst hK; exact pi_enum hg hm ha hs
theorem pi_zipZ {K : PySem.W.Frag} {e e2 : Expr} {ta : TA} {p pos tpos : Pos} {elts : List Expr} {kk : Nat} (hK : X.K = K) (hg : Gl X "zip") (hm : X.mg "zip" = none) (ha : PA X [e, e2] ta)
    (hs : starEach [e, e2] X.env = (false, eval e X.env) :: starEach [e2] X.env := by rfl) (hpl : (backTo pos (starEach [e2] X.env)).any (·.1) = false := by rfl) :
    PI X (.Tuple elts kk tpos) (.Call (.Name "zip" p) [e, e2] [] pos) (iZip K ta) := by subst hK; exact pi_zip hg hm ha hs hpl
theorem pe_fldZ {K : PySem.W.Frag} {e : Expr} {f : Str} {pos : Pos} {ta : TE} (hK : X.K = K) (he : PE X e ta) (hb : attributeBase e f X.env (eval e X.env) = eval e X.env) : PE X (.Attribute e f pos) (tFld K ta f) := by subst hK; exact pe_fld he hb
theorem pg_tupZ {K : PySem.W.Frag} {es : List Expr} {k : Nat} {t : TGs} {n : Nat} {pos : Pos} (hK : X.K = K) (hc : X.calm = true) (h : PGs X es t)
    (hn : (assignEach es X.env).length = n := by rfl) (hst : (assignEach es X.env).findIdx? (·.1) = none := by rfl) : PG X (.Tuple es k pos) (gTup K n t) := by subst hK; exact pg_tup hc h hn hst
theorem pe_bmZ {K : PySem.W.Frag} {o e : Expr} {es : List Expr} {to : TE} {t : TA} {name : Str} {apos cpos : Pos} {T id : String} {r : V → List V → Hp → VK → Prop} (hK : X.K = K) (pa : PlainAttrs T) (slot : Slot T name id) (hty : typeOf (.builtin id) = pure (.type "method_descriptor")) (hm : MtR X id r) (ho : PE X o to) (ha : PA X (e :: es) t)
    (hbase : attributeBase o name X.env (eval o X.env) = eval o X.env := by rfl)
    (hfew : ((backTo cpos (starEach (e :: es) X.env)).all (fun x => !x.1) && (backToKw cpos (keywordEach [] X.env)).all (fun x => x.1.isSome)
      && decide ((e :: es).length + ([] : List Keyword).length + (if ([] : List Keyword).isEmpty then 0 else 1) < 30)) = true := by rfl)
    (hline : (apos.endLine == cpos.line) = true := by rfl) (hs : starEach (e :: es) X.env = (false, eval e X.env) :: starEach es X.env := by rfl) (hplain : (backTo cpos (starEach es X.env)).any (·.1) = false := by rfl) :
    PE X (.Call (.Attribute o name apos) (e :: es) [] cpos) (tBM K T r to t) := by subst hK; exact pe_bm pa slot hty hm ho ha hbase hfew hline hs hplain
theorem pe_bm0Z {K : PySem.W.Frag} {o : Expr} {to : TE} {name : Str} {apos cpos : Pos} {T id : String} {r : V → List V → Hp → VK → Prop} (hK : X.K = K) (pa : PlainAttrs T) (slot : Slot T name id) (hty : typeOf (.builtin id) = pure (.type "method_descriptor")) (hm : MtR X id r) (ho : PE X o to)
    (hbase : attributeBase o name X.env (eval o X.env) = eval o X.env := by rfl) (hline : (apos.endLine == cpos.line) = true := by rfl) : PE X (.Call (.Attribute o name apos) [] [] cpos) (tBM0 K T r to) := by subst hK; exact pe_bm0 pa slot hty hm ho hbase hline
def tCallZ (sp : Sp) (E : XK) (t : TA) : TE := fun σ H Q => t σ H fun vs H1 => sp vs H1 Q E
variable {CX : CXT} {k : Nat} {f C : Addr} {fd : FuncData} {ps : List Str} {sp : Sp} {E : XK} {x m : Str} {p pos apos : Pos} {e o : Expr} {es : List Expr} {ta : TE} {t : TA}
theorem callZ_eq : tCall sp [] E t = tCallZ sp E t := by
  funext σ H Q
  show t σ H (fun vs H1 => sp (vs ++ []) H1 Q E) = t σ H fun vs H1 => sp vs H1 Q E
  simp only [List.append_nil]
theorem pe_callZ (F : FnOk X.prog X.w X.K X.mg X.base CX k f fd ps sp) (hr : Room k X.A) (hg : Gl X x) (hm : X.mg x = some (.ref f)) (hk : PySem.W.keepIn X.K (.ref f) = true) (hb : Binds X.K fd ps []) (hx : Passes CX X E)
    (ha : PA X (e :: es) t) (hdb : (x == ("__debug__" : Str)) = false := by decide) (he : starEach (e :: es) X.env = (false, eval e X.env) :: starEach es X.env := by rfl) (hpl : (backTo pos (starEach es X.env)).any (·.1) = false := by rfl) :
    PE X (.Call (.Name x p) (e :: es) [] pos) (tCallZ sp E t) := by
  rw [← callZ_eq]
  exact pe_call F hr hg hm hk hb .nil hx ha hdb he hpl
theorem pe_call0Z (F : FnOk X.prog X.w X.K X.mg X.base CX k f fd ps sp) (hr : Room k X.A) (hg : Gl X x) (hm : X.mg x = some (.ref f)) (hk : PySem.W.keepIn X.K (.ref f) = true) (hb : Binds X.K fd ps []) (hx : Passes CX X E)
    (hdb : (x == ("__debug__" : Str)) = false := by decide) : PE X (.Call (.Name x p) [] [] pos) (tCallZ sp E tNil) := by
  rw [← callZ_eq]
  exact pe_call0 F hr hg hm hk hb .nil hx hdb
end
/-! ## Steps: what a reading asks, one construct at a time -/
section
variable {K : PySem.W.Frag} {σ : St} {H : Hp} {nx bk ct : St → Hp → Prop} {rt : VK} {t u : TS} {te ta tb tc : TE} {tt uu : TT} {Q : VK} {QB : Bool → Hp → Prop} {QA : List V → Hp → Prop} {QO : Option Int → Hp → Prop} {v : V} {i : Nat} {b : Bool} {tr : TA}
theorem z_seq (h : t ⟨fun σ H => u ⟨nx, rt, bk, ct⟩ σ H, rt, bk, ct⟩ σ H) : tSeq t u ⟨nx, rt, bk, ct⟩ σ H := h
theorem z_asg (h : te σ H fun x H1 => nx (σ.set i (some x)) H1) : tAsg te (gName i) ⟨nx, rt, bk, ct⟩ σ H := h
theorem z_asgS {to ti : TE} {ts : TSet} (h : te σ H fun x H1 => to σ H1 fun o H2 => ti σ H2 fun j H3 => ts o j x H3 fun H4 => nx σ H4) : tAsg te (gSub to ti ts) ⟨nx, rt, bk, ct⟩ σ H := h
theorem z_asgT {n : Nat} {g : TGs} (h : te σ H fun x H1 => gTup K n g x σ H1 nx) : tAsg te (gTup K n g) ⟨nx, rt, bk, ct⟩ σ H := h
theorem z_drop (h : te σ H fun _ H1 => nx σ H1) : tDrop te ⟨nx, rt, bk, ct⟩ σ H := h
theorem z_ret (h : te σ H fun v H1 => rt v H1) : tRet te ⟨nx, rt, bk, ct⟩ σ H := h
theorem z_retN (h : rt .non H) : tRetN ⟨nx, rt, bk, ct⟩ σ H := h
theorem z_next (h : nx σ H) : tNext ⟨nx, rt, bk, ct⟩ σ H := h
theorem z_brk (h : bk σ H) : tBreak ⟨nx, rt, bk, ct⟩ σ H := h
theorem z_cont (h : ct σ H) : tCont ⟨nx, rt, bk, ct⟩ σ H := h
theorem z_ifS (h : tt σ H fun b H1 => if b = true then t ⟨nx, rt, bk, ct⟩ σ H1 else u ⟨nx, rt, bk, ct⟩ σ H1) : tIfS tt t u ⟨nx, rt, bk, ct⟩ σ H := h
theorem z_sgc (h : t ⟨fun σ' H' => ∃ G, Gc H H' G ∧ nx σ' G, fun v H' => ∃ G, Gc H H' G ∧ rt v G, fun σ' H' => ∃ G, Gc H H' G ∧ bk σ' G, fun σ' H' => ∃ G, Gc H H' G ∧ ct σ' G⟩ σ H) : sGc t ⟨nx, rt, bk, ct⟩ σ H := h
theorem z_aug {x : V} {ti : TIp} (e : σ[i]? = some (some x)) (h : te σ H fun y H1 => ti x y H1 fun z H2 => nx (σ.set i (some z)) H2) : tAug i te ti ⟨nx, rt, bk, ct⟩ σ H := ⟨x, e, h⟩
theorem z_ipI {f : Int → Int → Int} {i j : Int} (h : Q (.int (f i j)) H) : ipI f (.int i) (.int j) H Q := ⟨i, j, rfl, rfl, h⟩
theorem z_tgc (h : te σ H fun v H' => ∃ G, Gc H H' G ∧ Q v G) : tGc te σ H Q := h
theorem z_ugc (h : tt σ H fun v H' => ∃ G, Gc H H' G ∧ QB v G) : uGc tt σ H QB := h
theorem z_var (e : σ[i]? = some (some v)) (h : Q v H) : tVar i σ H Q := ⟨v, e, h⟩
theorem z_c (h : Q v H) : tC v σ H Q := h
theorem z_op {r : R2} (h : ta σ H fun x H1 => tb σ H1 fun y H2 => r x y H2 Q) : tOp r ta tb σ H Q := h
theorem z_un {r : V → Hp → VK → Prop} (h : ta σ H fun x H1 => r x H1 Q) : tUn r ta σ H Q := h
theorem z_rU {g : Int → V} {i : Int} (h : Q (g i) H) : rU g (.int i) H Q := ⟨i, rfl, h⟩
theorem z_cb {r : List V → Hp → VK → Prop} (h : tr σ H fun vs H1 => r vs H1 Q) : tCB r tr σ H Q := h
theorem z_call {sp : Sp} {E : XK} (h : tr σ H fun vs H1 => sp vs H1 Q E) : tCallZ sp E tr σ H Q := h
theorem z_nil (h : QA [] H) : tNil σ H QA := h
theorem z_cons (h : ta σ H fun x H1 => tr σ H1 fun xs H2 => QA (x :: xs) H2) : tCons ta tr σ H QA := h
theorem z_tst (h : te σ H fun x H' => ∃ k, x = .bl k ∧ QB k H') : tTest te σ H QB := h
theorem z_tB (h : te σ H fun x H' => ∃ k, x = .bl k ∧ QB k H') : tB te σ H QB := h
theorem z_bl {Qb : Bool → Prop} (h : Qb b) : ∃ k, V.bl b = .bl k ∧ Qb k := ⟨b, rfl, h⟩
theorem z_and (h : tt σ H fun c H1 => if c = true then uu σ H1 QB else QB false H1) : tAnd tt uu σ H QB := h
theorem z_or (h : tt σ H fun c H1 => if c = true then QB true H1 else uu σ H1 QB) : tOr tt uu σ H QB := h
theorem z_not (h : tt σ H fun c H1 => QB (!c) H1) : tNot tt σ H QB := h
theorem z_andV (h : ta σ H fun x H1 => ∃ c, x = .bl c ∧ if c = true then tb σ H1 Q else Q (.bl false) H1) : tAndV ta tb σ H Q := h
theorem z_orV (h : ta σ H fun x H1 => ∃ c, x = .bl c ∧ if c = true then Q (.bl true) H1 else tb σ H1 Q) : tOrV ta tb σ H Q := h
theorem z_notV (h : ta σ H fun x H1 => ∃ c, x = .bl c ∧ Q (.bl (!c)) H1) : tNotV ta σ H Q := h
theorem z_ifE (h : tt σ H fun c H1 => if c = true then ta σ H1 Q else tb σ H1 Q) : tIf tt ta tb σ H Q := h
theorem z_chain {r r' : R2} (h : ta σ H fun x H1 => tb σ H1 fun y H2 => r x y H2 fun z H3 => ∃ k, z = .bl k ∧ (if k = true then tc σ H3 fun w' H4 => r' y w' H4 Q else Q (.bl false) H3)) : tChain r r' ta tb tc σ H Q := h
theorem z_truZ (h : ta σ H fun x H' => ∃ k, TruV K x H' k ∧ QB k H') : tTruZ K ta σ H QB := h
theorem z_truB {Qb : Bool → Prop} (h : Qb b) : ∃ k, TruV K (.bl b) H k ∧ Qb k := ⟨b, rfl, h⟩
theorem z_truI {Qb : Bool → Prop} {i : Int} (h : Qb (!decide (i = 0))) : ∃ k, TruV K (.int i) H k ∧ Qb k := ⟨i != 0, rfl, by
  have e : (i != 0) = !decide (i = 0) := by
    by_cases q : i = 0
    · simp [q]
    · simp [q]
  rw [e]
  exact h⟩
theorem z_lst (h : tr σ H fun xs H1 => xs.length ≤ sizeLine ∧ ∀ p, H1 p = none → Q (.ref p) (upd H1 p (.lst xs))) : tLst tr σ H Q := h
theorem z_tup (h : tr σ H fun xs H1 => xs.length ≤ sizeLine ∧ ∀ p, H1 p = none → Q (.ref p) (upd H1 p (.tup xs))) : tTup tr σ H Q := h
theorem z_sl {r : V → Option Int → Option Int → Hp → VK → Prop} {tl th : TO} (h : te σ H fun x H1 => tl σ H1 fun l H2 => th σ H2 fun u H3 => r x l u H3 Q) : tSl r te tl th σ H Q := h
theorem z_nopart (h : QO none H) : tNoPart σ H QO := h
theorem z_part (h : te σ H fun x H1 => ∃ i, x = .int i ∧ QO (some i) H1) : tPart te σ H QO := h
theorem z_int {Qi : Int → Prop} {i : Int} (h : Qi i) : ∃ j, V.int i = .int j ∧ Qi j := ⟨i, rfl, h⟩
/-! ### operators -/
theorem z_I0 {g : Int → Int → V} {i j : Int} (h : Q (g i j) H) : rI0 g (.int i) (.int j) H Q := ⟨i, j, rfl, rfl, h⟩
theorem z_I {C : Int → Int → Prop} {g : Int → Int → V} {i j : Int} (c : C i j) (h : Q (g i j) H) : rI C g (.int i) (.int j) H Q := ⟨i, j, rfl, rfl, c, h⟩
theorem z_addI {i j : Int} (h : Q (.int (i + j)) H) : rAddZ K (.int i) (.int j) H Q := .inl (.inl ⟨i, j, rfl, rfl, h⟩)
theorem z_addS {x y : Str} (c : x.length + y.length ≤ sizeLine) (h : Q (.str (x ++ y)) H) : rAddZ K (.str x) (.str y) H Q := .inl (.inr ⟨x, y, rfl, rfl, c, h⟩)
theorem z_cat {a c : Addr} {xs zs : List V} (ha : SqL K H a xs) (hc : SqL K H c zs) (z : xs.length + zs.length ≤ sizeLine) (h : ∀ p, H p = none → Q (.ref p) (upd H p (.lst (xs ++ zs)))) : rAddZ K (.ref a) (.ref c) H Q :=
  .inr ⟨a, c, xs, zs, rfl, rfl, ha, hc, z, h⟩
theorem z_mulI {i j : Int} (c : CMul i j) (h : Q (.int (i * j)) H) : rMulZ (.int i) (.int j) H Q := .inl ⟨i, j, rfl, rfl, c, h⟩
theorem z_rep {a : Addr} {xs : List V} {k : Int} (ha : H a = some (.lst xs)) (h1 : -(2 ^ 63) ≤ k) (h2 : k < 2 ^ 63) (z : xs.length * k.toNat ≤ sizeLine) (h : ∀ p, H p = none → Q (.ref p) (upd H p (.lst (List.replicate k.toNat xs).flatten))) : rMulZ (.ref a) (.int k) H Q :=
  .inr ⟨a, k, xs, rfl, rfl, ha, h1, h2, z, h⟩
theorem z_eqI {i j : Int} (h : Q (.bl (decide (i = j))) H) : rEqZ K (.int i) (.int j) H Q := .inl ⟨rfl, by
  have e : decide (V.int i = V.int j) = decide (i = j) := by simp
  rw [e]; exact h⟩
theorem z_neI {i j : Int} (h : Q (.bl (!decide (i = j))) H) : rNeZ K (.int i) (.int j) H Q := .inl ⟨rfl, by
  have e : decide (V.int i = V.int j) = decide (i = j) := by simp
  rw [e]; exact h⟩
theorem z_eqS {x y : Str} (h : Q (.bl (decide (x = y))) H) : rEqZ K (.str x) (.str y) H Q := .inl ⟨rfl, by
  have e : decide (V.str x = V.str y) = decide (x = y) := by simp
  rw [e]; exact h⟩
theorem z_neS {x y : Str} (h : Q (.bl (!decide (x = y))) H) : rNeZ K (.str x) (.str y) H Q := .inl ⟨rfl, by
  have e : decide (V.str x = V.str y) = decide (x = y) := by simp
  rw [e]; exact h⟩
/-! ### tests that are open -/
theorem z_if {p A B : Prop} [Decidable p] (h1 : p → A) (h2 : ¬ p → B) : if decide p = true then A else B := by
  by_cases h : p
  · rw [if_pos (decide_eq_true h)]; exact h1 h
  · rw [if_neg (by rw [decide_eq_false h]; exact Bool.false_ne_true)]; exact h2 h
theorem z_ifn {p A B : Prop} [Decidable p] (h1 : ¬ p → A) (h2 : p → B) : if (!decide p) = true then A else B := by
  by_cases h : p
  · rw [if_neg (by rw [decide_eq_true h]; exact Bool.false_ne_true)]; exact h2 h
  · rw [if_pos (by rw [decide_eq_false h]; rfl)]; exact h1 h
theorem z_nn (h : Q (.bl b) H) : Q (.bl (!!b)) H := by rw [Bool.not_not]; exact h
theorem z_iT {A B : Prop} (h : A) : if true = true then A else B := by rw [if_pos rfl]; exact h
theorem z_iF {A B : Prop} (h : B) : if false = true then A else B := by rw [if_neg Bool.false_ne_true]; exact h
theorem z_inF {A B : Prop} (h : A) : if (!false) = true then A else B := h
theorem z_inT {A B : Prop} (h : B) : if (!true) = true then A else B := by
  rw [if_neg (by decide)]; exact h
/-! ### lists that are read -/
theorem at_int {ns : List Int} {i : Int} (h0 : 0 ≤ i) (h1 : i < ns.length) : atI (ns.map V.int) i = some (.int (ns.getD i.toNat 0)) := by
  obtain ⟨n, rfl⟩ : ∃ n : Nat, i = (n : Int) := ⟨i.toNat, (Int.toNat_of_nonneg h0).symm⟩
  have hl : n < ns.length := by omega
  rw [Int.toNat_natCast]
  refine atI_nat ?_
  rw [List.getElem?_map, List.getElem?_eq_getElem hl]
  simp [List.getD, hl]
theorem z_ixL {a : Addr} {xs : List V} {i : Int} (ha : SqL K H a xs) (hi : atI xs i = some v) (h : Q v H) : rIx K (.ref a) (.int i) H Q := .inl ⟨a, xs, i, v, rfl, rfl, ha, hi, h⟩
theorem z_ixT {a : Addr} {xs : List V} {i : Int} (ha : SqT K H a xs) (hi : atI xs i = some v) (h : Q v H) : rIx K (.ref a) (.int i) H Q := .inr (.inl ⟨a, xs, i, v, rfl, rfl, ha, hi, h⟩)
theorem z_ixI {a : Addr} {ns : List Int} {i : Int} (ha : SqL K H a (ns.map V.int)) (h0 : 0 ≤ i) (h1 : i < ns.length) (h : Q (.int (ns.getD i.toNat 0)) H) : rIx K (.ref a) (.int i) H Q := z_ixL ha (at_int h0 h1) h
theorem z_setI {a : Addr} {ns : List Int} {i w : Int} {R : Hp → Prop} (ha : H a = some (.lst (ns.map V.int))) (h0 : 0 ≤ i) (h1 : i < ns.length) (h : R (upd H a (.lst ((ns.set i.toNat w).map V.int)))) : rSetL (.ref a) (.int i) (.int w) H R :=
  ⟨a, _, i, i.toNat, rfl, rfl, ha, by unfold ixN; rw [if_pos h0, List.length_map, if_pos h1], by rw [← List.map_set]; exact h⟩
theorem z_lenL {a : Addr} {xs : List V} (ha : SqL K H a xs) (h : Q (.int (xs.length : Int)) H) : rLenZ K [.ref a] H Q := ⟨_, xs.length, rfl, .inl ⟨xs, ha, rfl⟩, h⟩
theorem z_lenI {a : Addr} {ns : List Int} (ha : SqL K H a (ns.map V.int)) (h : Q (.int (ns.length : Int)) H) : rLenZ K [.ref a] H Q := z_lenL ha (by rw [List.length_map]; exact h)
theorem z_slL {a : Addr} {xs : List V} {lo hi : Option Int} (ha : SqL K H a xs) (h : ∀ p, H p = none → Q (.ref p) (upd H p (.lst (cutV xs lo hi)))) : rSlZ K (.ref a) lo hi H Q := .inl ⟨a, xs, rfl, ha, h⟩
theorem z_slS {x : Str} {lo hi : Option Int} (c : x.length ≤ sizeLine) (h : Q (.str (cutS x lo hi)) H) : rSlZ K (.str x) lo hi H Q := .inr ⟨x, rfl, c, h⟩
theorem sq_up {a p : Addr} {o : HO} {xs : List V} (hp : H p = none) (h : SqL K H a xs) : SqL K (upd H p o) a xs := (same_up (fun _ _ e => e) hp : Same H (upd H p o)).seq h
end

theorem cx_K {CX : CXT} {P : Program} {w : World} {K : PySem.W.Frag} {mg : Str → Option Value} {base : Heap} {N : List Str} {qual : Str} {scope : Scope} {f : Addr} {cd : Value} {A : Around} {outer : List Env} {s : Shared} {H : Hp} {E : XK} :
    (cxOf CX P w K mg base N qual scope f cd A outer s H E).K = K := rfl

/-! ## Loops, what a turn made and dropped forgotten at its end -/
structure Rt (X : Cx) (H : Hp) : Prop where
  keep : ∀ b o, X.H_0 b = some o → kept o = true → ∃ u, H b = some u ∧ kept u = true ∧ (∀ xs, o = .tup xs → u = o) ∧ (∀ ob u', o = .frz ob u' → u = o) ∧ ∀ ps, o = .tbl ps → ∃ more, u = .tbl (ps ++ more)
  cl : ∀ a o (G : Hp), H a = some o → (∀ b, H b = some (.own a) → G b = some (.own a)) → okA G a o
section
variable {X : Cx}
theorem Rt.of {pins : List (Addr × Obj)} {σ : List (Option V)} {H : Hp} {s : Shared} (I : Inv X pins σ H s) : Rt X H where
  keep := fun b o e k => by
    cases o with
    | tup xs => exact ⟨_, I.base.tups b xs e, rfl, fun _ _ => rfl, fun _ _ _ => rfl, fun _ q => nomatch q⟩
    | frz ob u => exact ⟨_, I.base.frzs b ob u e, rfl, fun _ _ => rfl, fun _ _ _ => rfl, fun _ q => nomatch q⟩
    | tbl ps =>
      obtain ⟨more, q⟩ := I.base.tbls b ps e
      exact ⟨_, q, rfl, fun _ z => (nomatch z), fun _ _ z => (nomatch z), fun _ z => by cases z; exact ⟨more, rfl⟩⟩
    | _ => cases k
  cl := fun a o G e k => okA_of (I.hok a o e) k
theorem inv_gcR {pins : List (Addr × Obj)} {σ : List (Option V)} {H H' G : Hp} {s : Shared} (R : Rt X H) (J : Inv X pins σ H' s) (g : Gc H H' G) : Inv X pins σ G s where
  ok := J.ok
  os := J.os
  bare := J.bare
  base :=
    { keep := J.base.keep
      slot := J.base.slot
      free := fun b o q n hx => none_sub g (J.base.free b o q n hx)
      there := J.base.there
      tups := fun b xs q => by
        obtain ⟨u, e, k, h1, _, _⟩ := R.keep b _ q rfl
        rw [h1 _ rfl] at e k
        exact g.keep b _ e k
      frzs := fun b o u q => by
        obtain ⟨u', e, k, _, h1, _⟩ := R.keep b _ q rfl
        rw [h1 _ _ rfl] at e k
        exact g.keep b _ e k
      tbls := fun b ps q => by
        obtain ⟨u', e, k, _, _, h1⟩ := R.keep b _ q rfl
        obtain ⟨more, rfl⟩ := h1 _ rfl
        exact ⟨more, g.keep b _ e k⟩ }
  loc := J.loc
  cell := J.cell
  free := none_sub g J.free
  freeC := fun x c e => none_sub g (J.freeC x c e)
  pin := fun p hp => ⟨(J.pin p hp).1, none_sub g (J.pin p hp).2.1, (J.pin p hp).2.2⟩
  hok := fun a o e => by
    have x : ObjOk X.prog X.w H' s.heap a o := J.hok a o (g.sub a o e)
    refine obj_sub x ?_ ?_
    · rcases g.ok a o e with k | ⟨q, k⟩
      · exact k
      · exact R.cl a o G q k
    · rcases g.dt with d | d
      · exact .inl (d a o e)
      · exact .inr d
  len := J.len
/-- a block whose leavings are forgotten as from the heap H0 -/
def sGcE (H0 : Hp) (t : TS) : TS := fun D σ H => t ⟨fun σ' H' => ∃ G, Gc H0 H' G ∧ D.nx σ' G, fun v H' => ∃ G, Gc H0 H' G ∧ D.rt v G, fun σ' H' => ∃ G, Gc H0 H' G ∧ D.bk σ' G, fun σ' H' => ∃ G, Gc H0 H' G ∧ D.ct σ' G⟩ σ H
theorem pss_gcE {H0 : Hp} (R : Rt X H0) {st : List Stmt} {t : TS} (h : PSs X st t) : PSs X st (sGcE H0 t) := ⟨fun pins s σ H D I q => thn (h.run pins s σ H _ I q) fun f s1 q1 => by
  cases f with
  | next =>
    obtain ⟨σ1, H1, I1, G, g, q1⟩ := q1
    exact ⟨σ1, G, inv_gcR R I1 g, q1⟩
  | brk =>
    obtain ⟨σ1, H1, I1, G, g, q1⟩ := q1
    exact ⟨σ1, G, inv_gcR R I1 g, q1⟩
  | cont =>
    obtain ⟨σ1, H1, I1, G, g, q1⟩ := q1
    exact ⟨σ1, G, inv_gcR R I1 g, q1⟩
  | ret u =>
    obtain ⟨v, σ1, H1, I1, r, G, g, q1⟩ := q1
    exact ⟨v, σ1, G, inv_gcR R I1 g, r, q1⟩⟩
def ForZ (J : It) (g : TG) (tb : TS) : TS := fun D σ H => ∃ W : Nat → Nat → St → Hp → Prop, (∃ m, W 0 m σ H) ∧ ∀ i m σ H, W i m σ H →
  (J.stop i H ∧ D.nx σ H) ∨ (J.go i H ∧ ∃ N : St → Hp → Prop, (∀ σ' H', N σ' H' → ∃ m', m' < m ∧ W (i + 1) m' σ' H') ∧ ∀ x H', J.yld i H x H' → g x σ H' fun σ2 H2 => tb { D with nx := N, ct := N, bk := D.nx } σ2 H2)
def tForZ (wi : TI) (g : TG) (tb : TS) : TS := fun D σ H => wi σ H fun J H1 => ForZ J g (sGcE H tb) D σ H1
theorem ps_forZ {tg iter : Expr} {body : List Stmt} {wi : TI} {g : TG} {tb : TS} {pos : Pos} (hp : PassesOwn (model X.prog X.w) X.A X.env X.xe) (hc : X.calm = true) (hi : PI X tg iter wi) (hg : PG X tg g) (hb : PSs X body tb)
    (hs : ∀ x, foldedSetIterable iter X.env x = pure x := by intro _; rfl) : PS X (.For tg iter body [] pos) (tForZ wi g tb) :=
  ⟨fun pins s σ H D I h => (ps_for hp hc hi hg (pss_gcE (Rt.of I) hb) hs).run pins s σ H D I h⟩
def tWhileZ (c : TT) (tb : TS) : TS := fun D σ H => tWhile c (sGcE H tb) D σ H
theorem ps_whileZ {c : Expr} {body : List Stmt} {tc : TT} {tb : TS} {pos : Pos} (hp : PassesOwn (model X.prog X.w) X.A X.env X.xe) (hc : PT X c tc) (hb : PSs X body tb) : PS X (.While c body [] pos) (tWhileZ tc tb) :=
  ⟨fun pins s σ H D I h => (ps_while hp hc (pss_gcE (Rt.of I) hb)).run pins s σ H D I h⟩
end
section
variable {K : PySem.W.Frag} {σ : St} {H H0 : Hp} {nx bk ct : St → Hp → Prop} {rt : VK} {tb : TS} {g : TG} {a : Addr} {xs : List V} {tr : TA} {te : TE}
theorem z_forR1 (h : tr σ H fun vs H1 => ∃ n : Int, vs = [.int n] ∧ -(2 ^ 62) ≤ n ∧ n < 2 ^ 62 ∧ ForZ (Itr 0 n.toNat) g (sGcE H tb) ⟨nx, rt, bk, ct⟩ σ H1) : tForZ (iRng1 tr) g tb ⟨nx, rt, bk, ct⟩ σ H := h
theorem z_forR2 (h : tr σ H fun vs H1 => ∃ i j : Int, vs = [.int i, .int j] ∧ (-(2 ^ 62) ≤ i ∧ i < 2 ^ 62 ∧ -(2 ^ 62) ≤ j ∧ j < 2 ^ 62) ∧ ForZ (Itr i (j - i).toNat) g (sGcE H tb) ⟨nx, rt, bk, ct⟩ σ H1) : tForZ (iRng2 tr) g tb ⟨nx, rt, bk, ct⟩ σ H := h
theorem z_forL (h : te σ H fun x H1 => ∃ a, x = .ref a ∧ (∃ xs, SqL K H1 a xs) ∧ ForZ (Itl K a) g (sGcE H tb) ⟨nx, rt, bk, ct⟩ σ H1) : tForZ (iList K te) g tb ⟨nx, rt, bk, ct⟩ σ H := h
theorem z_forT (h : te σ H fun x H1 => ∃ a, x = .ref a ∧ (∃ xs, SqT K H1 a xs) ∧ ForZ (Itt K a) g (sGcE H tb) ⟨nx, rt, bk, ct⟩ σ H1) : tForZ (iTup K te) g tb ⟨nx, rt, bk, ct⟩ σ H := h
theorem z_forE (h : tr σ H fun vs H1 => ∃ a xs, vs = [.ref a] ∧ SqL K H1 a xs ∧ ForZ (Ite K a) g (sGcE H tb) ⟨nx, rt, bk, ct⟩ σ H1) : tForZ (iEnum K tr) g tb ⟨nx, rt, bk, ct⟩ σ H := h
theorem z_rn1 {R : Int → Prop} {n : Int} (h0 : -(2 ^ 62) ≤ n) (h1 : n < 2 ^ 62) (h : R n) : ∃ m : Int, [V.int n] = [V.int m] ∧ -(2 ^ 62) ≤ m ∧ m < 2 ^ 62 ∧ R m := ⟨n, rfl, h0, h1, h⟩
theorem z_rn2 {R : Int → Int → Prop} {m n : Int} (h0 : -(2 ^ 62) ≤ m ∧ m < 2 ^ 62 ∧ -(2 ^ 62) ≤ n ∧ n < 2 ^ 62) (h : R m n) : ∃ i j : Int, [V.int m, V.int n] = [V.int i, V.int j] ∧ (-(2 ^ 62) ≤ i ∧ i < 2 ^ 62 ∧ -(2 ^ 62) ≤ j ∧ j < 2 ^ 62) ∧ R i j := ⟨m, n, rfl, h0, h⟩
/-- over a range, by what holds between the turns -/
theorem f_range {lo : Int} {n : Nat} (Pv : Nat → St → Hp → Prop) (h0 : Pv 0 σ H)
    (hs : ∀ i σ H, i < n → Pv i σ H → g (.int (lo + i)) σ H fun σ2 H2 => tb ⟨fun σ' H' => ∃ G, Gc H0 H' G ∧ Pv (i + 1) σ' G, fun v H' => ∃ G, Gc H0 H' G ∧ rt v G, fun σ' H' => ∃ G, Gc H0 H' G ∧ nx σ' G, fun σ' H' => ∃ G, Gc H0 H' G ∧ Pv (i + 1) σ' G⟩ σ2 H2) (hd : ∀ σ H, Pv n σ H → nx σ H) :
    ForZ (Itr lo n) g (sGcE H0 tb) ⟨nx, rt, bk, ct⟩ σ H := for_range (D := ⟨nx, rt, bk, ct⟩) (tb := sGcE H0 tb) Pv h0 hs hd
theorem f_list (Pv : Nat → St → Hp → Prop) (h0 : Pv 0 σ H) (hl : ∀ i σ H, i ≤ xs.length → Pv i σ H → SqL K H a xs)
    (hs : ∀ i x σ H, xs[i]? = some x → Pv i σ H → g x σ H fun σ2 H2 => tb ⟨fun σ' H' => ∃ G, Gc H0 H' G ∧ Pv (i + 1) σ' G, fun v H' => ∃ G, Gc H0 H' G ∧ rt v G, fun σ' H' => ∃ G, Gc H0 H' G ∧ nx σ' G, fun σ' H' => ∃ G, Gc H0 H' G ∧ Pv (i + 1) σ' G⟩ σ2 H2) (hd : ∀ σ H, Pv xs.length σ H → nx σ H) :
    ForZ (Itl K a) g (sGcE H0 tb) ⟨nx, rt, bk, ct⟩ σ H := for_list (D := ⟨nx, rt, bk, ct⟩) (tb := sGcE H0 tb) Pv h0 hl hs hd
theorem f_tup (Pv : Nat → St → Hp → Prop) (h0 : Pv 0 σ H) (hl : ∀ i σ H, i ≤ xs.length → Pv i σ H → SqT K H a xs)
    (hs : ∀ i x σ H, xs[i]? = some x → Pv i σ H → g x σ H fun σ2 H2 => tb ⟨fun σ' H' => ∃ G, Gc H0 H' G ∧ Pv (i + 1) σ' G, fun v H' => ∃ G, Gc H0 H' G ∧ rt v G, fun σ' H' => ∃ G, Gc H0 H' G ∧ nx σ' G, fun σ' H' => ∃ G, Gc H0 H' G ∧ Pv (i + 1) σ' G⟩ σ2 H2) (hd : ∀ σ H, Pv xs.length σ H → nx σ H) :
    ForZ (Itt K a) g (sGcE H0 tb) ⟨nx, rt, bk, ct⟩ σ H := for_tup (D := ⟨nx, rt, bk, ct⟩) (tb := sGcE H0 tb) Pv h0 hl hs hd
/-- over a list of whole numbers -/
theorem f_ints {ns : List Int} (Pv : Nat → St → Hp → Prop) (h0 : Pv 0 σ H) (hl : ∀ i σ H, i ≤ ns.length → Pv i σ H → SqL K H a (ns.map V.int))
    (hs : ∀ (i : Nat) (n : Int) σ H, ns[i]? = some n → Pv i σ H → g (.int n) σ H fun σ2 H2 => tb ⟨fun σ' H' => ∃ G, Gc H0 H' G ∧ Pv (i + 1) σ' G, fun v H' => ∃ G, Gc H0 H' G ∧ rt v G, fun σ' H' => ∃ G, Gc H0 H' G ∧ nx σ' G, fun σ' H' => ∃ G, Gc H0 H' G ∧ Pv (i + 1) σ' G⟩ σ2 H2) (hd : ∀ σ H, Pv ns.length σ H → nx σ H) :
    ForZ (Itl K a) g (sGcE H0 tb) ⟨nx, rt, bk, ct⟩ σ H :=
  f_list (xs := ns.map V.int) Pv h0 (fun i σ H hi => hl i σ H (by rw [List.length_map] at hi; exact hi)) (fun i x σ H hx p => by
    rw [List.getElem?_map] at hx
    cases e : ns[i]? with
    | none => rw [e] at hx; cases hx
    | some n => rw [e] at hx; cases hx; exact hs i n σ H e p) (fun σ H p => hd σ H (by rw [List.length_map] at p; exact p))
theorem z_gn {i : Nat} {v : V} {Q : St → Hp → Prop} (h : Q (σ.set i (some v)) H) : gName i v σ H Q := h
/-! ### forgetting nothing -/
def Mu (H : Hp) (p : Addr) : Prop := ∀ o, H p = some o → kept o = false ∧ ∀ a, o ≠ .own a
theorem mu_none {p : Addr} (h : H p = none) : Mu H p := fun o e => by rw [h] at e; cases e
theorem mu_lst {p : Addr} {ys : List V} (h : H p = some (.lst ys)) : Mu H p := fun o e => by rw [h] at e; cases e; exact ⟨rfl, fun _ q => nomatch q⟩
theorem mu_dK {p : Addr} {ys : List (Key × V)} (h : H p = some (.dK ys)) : Mu H p := fun o e => by rw [h] at e; cases e; exact ⟨rfl, fun _ q => nomatch q⟩
theorem mu_ins {p C dx : Addr} {ys : List (Str × V)} (h : H p = some (.ins C dx ys)) : Mu H p := fun o e => by rw [h] at e; cases e; exact ⟨rfl, fun _ q => nomatch q⟩
theorem mu_atL {p : Addr} {ys : List V} : Mu (upd H p (.lst ys)) p := mu_lst upd_same
theorem mu_atD {p : Addr} {ys : List (Key × V)} : Mu (upd H p (.dK ys)) p := mu_dK upd_same
theorem mu_up {p q : Addr} {o : HO} (h : Mu H p) (e : p ≠ q) : Mu (upd H q o) p := fun u z => by rw [upd_ne e] at z; exact h u z
theorem gc_refl : Gc H H H := ⟨fun _ _ e => e, fun a o e => .inr ⟨e, fun _ q => q⟩, fun _ _ e _ => e, .inr fun _ _ e => e⟩
theorem gc_up {H' : Hp} {p : Addr} {o : HO} (g : Gc H H' H') (m : Mu H p) (m' : Mu H' p) (f : flatO o = true := by rfl) : Gc H (upd H' p o) (upd H' p o) where
  sub := fun _ _ e => e
  ok := fun a u h => by
    by_cases q : a = p
    · subst q; rw [upd_same] at h; cases h; exact .inl (okA_flat f)
    · rw [upd_ne q] at h
      rcases g.ok a u h with k | ⟨k1, k2⟩
      · refine .inl ?_
        clear h
        induction u with
        | ins C dx fs =>
          show upd H' p o dx = _
          have z : dx ≠ p := fun z => by subst z; exact (m' _ k).2 _ rfl
          rw [upd_ne z]; exact k
        | frz ob u ih => exact ih k
        | _ => trivial
      · refine .inr ⟨k1, fun b hb => ?_⟩
        have z : b ≠ p := fun z => by subst z; exact (m _ hb).2 _ rfl
        rw [upd_ne z]
        exact k2 b hb
  keep := fun b u h k => by
    have z : b ≠ p := fun z => by subst z; rw [(m _ h).1] at k; cases k
    rw [upd_ne z]
    exact g.keep b u h k
  dt := .inr fun _ _ e => e
end

/-! ## Comprehensions -/
def LcZ (J : It) (g : TG) (tt : TT) (te : TE) (vs : List Nat) : TE := fun σ H1 Q => ∀ D, H1 D = none → ∃ W : Nat → Nat → Hp → Prop, (∃ m, W 0 m (upd H1 D (.lst []))) ∧ ∀ i m H, W i m H →
  (J.stop i H ∧ Q (.ref D) H) ∨ (J.go i H ∧ ∃ Nx : Hp → Prop, (∀ H', Nx H' → ∃ m', m' < m ∧ W (i + 1) m' H') ∧ ∀ x H', J.yld i H x H' → g x (wipe σ vs) H' fun σ2 H2 => wipe σ2 vs = wipe σ vs ∧ tt σ2 H2 fun b H3 =>
    if b = true then te σ2 H3 fun y H4 => ∃ acc, H4 D = some (.lst acc) ∧ acc.length < sizeLine ∧ Nx (upd H4 D (.lst (acc ++ [y]))) else Nx H3)
section
variable {K : PySem.W.Frag} {σ : St} {H : Hp} {Q : VK} {g : TG} {tt : TT} {te tl : TE} {ws : List Nat} {tr : TA} {a : Addr} {j : Nat}
theorem z_lcR1 (h : tr σ H fun vs H1 => ∃ n : Int, vs = [.int n] ∧ -(2 ^ 62) ≤ n ∧ n < 2 ^ 62 ∧ LcZ (Itr 0 n.toNat) g tt te ws σ H1 Q) : tLc (iRng1 tr) g tt te ws σ H Q := h
theorem z_lcR2 (h : tr σ H fun vs H1 => ∃ i j : Int, vs = [.int i, .int j] ∧ (-(2 ^ 62) ≤ i ∧ i < 2 ^ 62 ∧ -(2 ^ 62) ≤ j ∧ j < 2 ^ 62) ∧ LcZ (Itr i (j - i).toNat) g tt te ws σ H1 Q) : tLc (iRng2 tr) g tt te ws σ H Q := h
theorem z_lcL (h : tl σ H fun x H1 => ∃ a, x = .ref a ∧ (∃ xs, SqL K H1 a xs) ∧ LcZ (Itl K a) g tt te ws σ H1 Q) : tLc (iList K tl) g tt te ws σ H Q := h
theorem z_lcS (h : tl σ H fun v H1 => ∃ x, v = .str x ∧ LcZ (Its x) g tt te ws σ H1 Q) : tLc (iStr tl) g tt te ws σ H Q := h
theorem c_range {lo : Int} {n : Nat} (f : Nat → V) (hz : n ≤ sizeLine) (hw : ∀ x, wipe ((wipe σ ws).set j (some x)) ws = wipe σ ws)
    (he : ∀ (i : Nat) H1 (R : VK), i < n → Same H H1 → R (f i) H1 → te ((wipe σ ws).set j (some (.int (lo + i)))) H1 R)
    (k : ∀ D, H D = none → Q (.ref D) (upd H D (.lst ((List.range n).map f)))) : LcZ (Itr lo n) (gName j) tYes te ws σ H Q := fun D hD =>
  lc_range (lo := lo) (n := n) (g := gName j) (tt := tYes) (te := te) (vs := ws) (σ := σ) (fun i H' => H' = upd H D (.lst ((List.range i).map f))) rfl (fun i H' hi e => by
    subst e
    refine ⟨hw _, ?_⟩
    unfold tYes
    refine iteT ?_
    refine he i _ _ hi (same_up (fun _ _ e => e) hD) ⟨_, upd_same, by simp; omega, ?_⟩
    rw [upd_upd, List.range_succ, List.map_append] <;> rfl) fun H' e => by subst e; exact k D hD
theorem c_list {xs : List V} (f : V → V) (hx : SqL K H a xs) (hw : ∀ x, wipe ((wipe σ ws).set j (some x)) ws = wipe σ ws) (hz : xs.length ≤ sizeLine)
    (he : ∀ (i : Nat) (x : V) H1 (R : VK), xs[i]? = some x → Same H H1 → R (f x) H1 → te ((wipe σ ws).set j (some x)) H1 R)
    (k : ∀ D, H D = none → Q (.ref D) (upd H D (.lst (xs.map f)))) : LcZ (Itl K a) (gName j) tYes te ws σ H Q := fun D hD =>
  lc_list (K := K) (a := a) (xs := xs) (g := gName j) (tt := tYes) (te := te) (vs := ws) (σ := σ) (fun i H' => H' = upd H D (.lst ((xs.take i).map f))) (by simp) (fun i H' _ e => by subst e; exact sq_up hD hx) (fun i x H' hi e => by
    subst e
    refine ⟨hw _, ?_⟩
    unfold tYes
    refine iteT ?_
    have hlt := (List.getElem?_eq_some_iff.mp hi).1
    refine he i x _ _ hi (same_up (fun _ _ e => e) hD) ⟨_, upd_same, by simp; omega, ?_⟩
    rw [upd_upd]
    have e2 : xs.take (i + 1) = xs.take i ++ [x] := by rw [List.take_add_one, hi] <;> rfl
    rw [e2, List.map_append] <;> rfl) fun H' e => by subst e; have := k D hD; rw [List.take_length]; exact this
theorem c_ints {ns : List Int} (f : Int → V) (hx : SqL K H a (ns.map V.int)) (hw : ∀ x, wipe ((wipe σ ws).set j (some x)) ws = wipe σ ws) (hz : ns.length ≤ sizeLine)
    (he : ∀ (i : Nat) (x : Int) H1 (R : VK), ns[i]? = some x → Same H H1 → R (f x) H1 → te ((wipe σ ws).set j (some (.int x))) H1 R)
    (k : ∀ D, H D = none → Q (.ref D) (upd H D (.lst (ns.map f)))) : LcZ (Itl K a) (gName j) tYes te ws σ H Q :=
  c_list (xs := ns.map V.int) (fun v => match v with | .int i => f i | v => v) hx hw (by rw [List.length_map]; exact hz) (fun i x H1 R hi s q => by
    rw [List.getElem?_map] at hi
    cases e : ns[i]? with
    | none => rw [e] at hi; cases hi
    | some n => rw [e] at hi; cases hi; exact he i n H1 R e s q) fun D hD => by
      have := k D hD
      rw [List.map_map]
      exact this
end
/-! ## isinstance, ends, bits -/
section
variable {K : PySem.W.Frag} {σ : St} {H : Hp} {Q : VK} {R : Hp → Prop}
theorem z_isi {x : V} {n m : String} {b : Bool} (ty : TyX K H x (.type n)) (e : PySem.W.kitOne K (.type n) (.type m) = some b) (h : Q (.bl b) H) : rIsi K [x, .ty m] H Q := ⟨x, .ty m, _, _, b, rfl, .ty m, ty, e, h⟩
theorem z_isiII {i : Int} (h : Q (.bl true) H) : rIsi K [.int i, .ty "int"] H Q := z_isi (.base (.int i)) (kit_ty (by decide +kernel)) h
theorem z_isiIB {i : Int} (h : Q (.bl false) H) : rIsi K [.int i, .ty "bool"] H Q := z_isi (.base (.int i)) (kit_ty (by decide +kernel)) h
theorem z_isiIL {i : Int} (h : Q (.bl false) H) : rIsi K [.int i, .ty "list"] H Q := z_isi (.base (.int i)) (kit_ty (by decide +kernel)) h
theorem z_isiIS {i : Int} (h : Q (.bl false) H) : rIsi K [.int i, .ty "str"] H Q := z_isi (.base (.int i)) (kit_ty (by decide +kernel)) h
theorem z_isiBI {i : Bool} (h : Q (.bl true) H) : rIsi K [.bl i, .ty "int"] H Q := z_isi (.base (.bl i)) (kit_ty (by decide +kernel)) h
theorem z_isiBB {i : Bool} (h : Q (.bl true) H) : rIsi K [.bl i, .ty "bool"] H Q := z_isi (.base (.bl i)) (kit_ty (by decide +kernel)) h
theorem z_isiNI (h : Q (.bl false) H) : rIsi K [.non, .ty "int"] H Q := z_isi (.base .non) (kit_ty (by decide +kernel)) h
theorem z_isiNL (h : Q (.bl false) H) : rIsi K [.non, .ty "list"] H Q := z_isi (.base .non) (kit_ty (by decide +kernel)) h
theorem z_isiNS (h : Q (.bl false) H) : rIsi K [.non, .ty "str"] H Q := z_isi (.base .non) (kit_ty (by decide +kernel)) h
theorem z_isiSS {x : Str} (h : Q (.bl true) H) : rIsi K [.str x, .ty "str"] H Q := z_isi (.base (.str x)) (kit_ty (by decide +kernel)) h
theorem z_isiSI {x : Str} (h : Q (.bl false) H) : rIsi K [.str x, .ty "int"] H Q := z_isi (.base (.str x)) (kit_ty (by decide +kernel)) h
theorem z_isiSL {x : Str} (h : Q (.bl false) H) : rIsi K [.str x, .ty "list"] H Q := z_isi (.base (.str x)) (kit_ty (by decide +kernel)) h
theorem z_isiLL {a : Addr} {xs : List V} (e : H a = some (.lst xs)) (h : Q (.bl true) H) : rIsi K [.ref a, .ty "list"] H Q := z_isi (.base (.lst e)) (kit_ty (by decide +kernel)) h
theorem z_isiLI {a : Addr} {xs : List V} (e : H a = some (.lst xs)) (h : Q (.bl false) H) : rIsi K [.ref a, .ty "int"] H Q := z_isi (.base (.lst e)) (kit_ty (by decide +kernel)) h
theorem z_isiLS {a : Addr} {xs : List V} (e : H a = some (.lst xs)) (h : Q (.bl false) H) : rIsi K [.ref a, .ty "str"] H Q := z_isi (.base (.lst e)) (kit_ty (by decide +kernel)) h
theorem z_isiTT {a : Addr} {xs : List V} (e : H a = some (.tup xs)) (h : Q (.bl true) H) : rIsi K [.ref a, .ty "tuple"] H Q := z_isi (.base (.tup e)) (kit_ty (by decide +kernel)) h
theorem z_isiTL {a : Addr} {xs : List V} (e : H a = some (.tup xs)) (h : Q (.bl false) H) : rIsi K [.ref a, .ty "list"] H Q := z_isi (.base (.tup e)) (kit_ty (by decide +kernel)) h
theorem z_isiTI {a : Addr} {xs : List V} (e : H a = some (.tup xs)) (h : Q (.bl false) H) : rIsi K [.ref a, .ty "int"] H Q := z_isi (.base (.tup e)) (kit_ty (by decide +kernel)) h
/-- nothing was made -/
theorem z_gc0 (h : R H) : ∃ G, Gc H H G ∧ R G := ⟨H, gc_refl, h⟩
theorem z_gc {H' G : Hp} (g : Gc H H' G) (h : R G) : ∃ G, Gc H H' G ∧ R G := ⟨G, g, h⟩
/-- one thing was made, and is told -/
theorem z_gcN {p : Addr} {o : HO} (hp : H p = none) (f : flatO o = true) (h : R (upd H p o)) : ∃ G, Gc H (upd H p o) G ∧ R G := ⟨_, gc_up gc_refl (mu_none hp) (mu_none hp) f, h⟩
end
section
theorem and_nat (a b : Nat) : Builtin.bitAnd (a : Int) (b : Int) = ((a &&& b : Nat) : Int) := by rw [PyProof.Rows.bitAnd_pp (by omega) (by omega)] <;> rfl
theorem xor_nat (a b : Nat) : Builtin.bitXor (a : Int) (b : Int) = ((a ^^^ b : Nat) : Int) := by rw [Bits.bitXor_pp (by omega) (by omega)] <;> rfl
theorem or_nat (a b : Nat) : Builtin.bitOr (a : Int) (b : Int) = ((a ||| b : Nat) : Int) := by rw [Bits.bitOr_pp (by omega) (by omega)] <;> rfl
end
/-- a row of bytes -/
def Byt (ns : List Int) : Prop := ∀ n ∈ ns, 0 ≤ n ∧ n < 256

section
variable {K : PySem.W.Frag} {σ : St} {H : Hp} {Q : VK} {te : TE} {ws : List Nat} {a : Addr} {j : Nat}
/-- whole numbers of which is told what holds of each -/
theorem c_rangeP {lo : Int} {n : Nat} (Pr : Nat → Int → Prop) (hz : n ≤ sizeLine) (hw : ∀ x, wipe ((wipe σ ws).set j (some x)) ws = wipe σ ws)
    (he : ∀ (i : Nat) H1 (R : VK), i < n → Same H H1 → (∀ y, Pr i y → R (.int y) H1) → te ((wipe σ ws).set j (some (.int (lo + i)))) H1 R)
    (k : ∀ D (ns : List Int), H D = none → ns.length = n → (∀ (i : Nat) y, ns[i]? = some y → Pr i y) → Q (.ref D) (upd H D (.lst (ns.map V.int)))) : LcZ (Itr lo n) (gName j) tYes te ws σ H Q := fun D hD =>
  lc_range (lo := lo) (n := n) (g := gName j) (tt := tYes) (te := te) (vs := ws) (σ := σ) (fun i H' => ∃ ns : List Int, ns.length = i ∧ (∀ (i : Nat) y, ns[i]? = some y → Pr i y) ∧ H' = upd H D (.lst (ns.map V.int))) ⟨[], rfl, fun i y e => by simp at e, rfl⟩ (fun i H' hi ⟨ns, hl, hp, e⟩ => by
    subst e
    refine ⟨hw _, ?_⟩
    unfold tYes
    refine iteT ?_
    refine he i _ _ hi (same_up (fun _ _ e => e) hD) fun y hy => ⟨_, upd_same, by rw [List.length_map]; omega, ns ++ [y], by simp [hl], fun m z e => ?_, by rw [upd_upd, List.map_append] <;> rfl⟩
    rw [List.getElem?_append] at e
    split at e
    · exact hp m z e
    · rename_i h
      have em : m - ns.length = 0 := by
        cases q : m - ns.length with
        | zero => rfl
        | succ d => rw [q] at e; simp at e
      rw [em] at e
      have ez : y = z := by simpa using e
      subst ez
      have : m = i := by omega
      subst this
      exact hy) fun H' ⟨ns, hl, hp, e⟩ => by subst e; exact k D ns hD hl hp
end
theorem byt_of {ns : List Int} (h : ∀ (i : Nat) y, ns[i]? = some y → 0 ≤ y ∧ y < 256) : Byt ns := fun n hn => by
  obtain ⟨i, hi, e⟩ := List.mem_iff_getElem.mp hn
  exact h i n (by rw [List.getElem?_eq_getElem hi, e])
/-! ## == of lists of whole numbers -/
section
variable {K : PySem.W.Frag} {H : Hp} {Q : VK}
theorem dpAll_ints {K : PySem.W.Frag} {H : Hp} : ∀ ns : List Int, DpAll K H (ns.map V.int) (ns.map PyData.int)
  | [] => .nil
  | n :: ns => .cons (.int n) (dpAll_ints ns)
theorem dp_ints {a : Addr} {ns : List Int} (h : SqL K H a (ns.map V.int)) : Dp K H (.ref a) (.list (ns.map PyData.int)) := .lst h (dpAll_ints ns)
theorem canLay_ints : ∀ ns : List Int, PyData.canLayAll0 (ns.map PyData.int) = true
  | [] => rfl
  | n :: ns => by
    show (PyData.canLay0 (.int n) && PyData.canLayAll0 (ns.map PyData.int)) = true
    rw [canLay_ints ns] <;> rfl
theorem depth_ints : ∀ ns : List Int, PyData.depthAll (ns.map PyData.int) = 0
  | [] => rfl
  | n :: ns => by
    show max (PyData.depth (.int n)) (PyData.depthAll (ns.map PyData.int)) = 0
    rw [depth_ints ns] <;> rfl
theorem shaped_ints (ns : List Int) : SeqAt.shaped (.list (ns.map PyData.int)) = true := by
  unfold SeqAt.shaped
  rw [show PyData.canLay0 (.list (ns.map PyData.int)) = true from canLay_ints ns]
  rw [show PyData.depth (.list (ns.map PyData.int)) = 1 from by show PyData.depthAll _ + 1 = 1; rw [depth_ints]] <;> rfl
theorem eqvAll_ints : ∀ ns ms : List Int, PyData.eqvAll (ns.map PyData.int) (ms.map PyData.int) = decide (ns = ms)
  | [], [] => rfl
  | [], m :: ms => rfl
  | n :: ns, [] => rfl
  | n :: ns, m :: ms => by
    show (n == m && PyData.eqvAll (ns.map PyData.int) (ms.map PyData.int)) = _
    rw [eqvAll_ints ns ms]
    by_cases h : n = m
    · subst h; simp
    · simp [h]
theorem eqv_ints (ns ms : List Int) : PyData.eqv (.list (ns.map PyData.int)) (.list (ms.map PyData.int)) = decide (ns = ms) := eqvAll_ints ns ms
theorem z_eqL {a b : Addr} {ns ms : List Int} (ha : SqL K H a (ns.map V.int)) (hb : SqL K H b (ms.map V.int)) (h : Q (.bl (decide (ns = ms))) H) : rEqZ K (.ref a) (.ref b) H Q :=
  .inr ⟨_, _, dp_ints ha, dp_ints hb, shaped_ints ns, shaped_ints ms, by rw [eqv_ints]; exact h⟩
theorem z_neL {a b : Addr} {ns ms : List Int} (ha : SqL K H a (ns.map V.int)) (hb : SqL K H b (ms.map V.int)) (h : Q (.bl (!decide (ns = ms))) H) : rNeZ K (.ref a) (.ref b) H Q :=
  .inr ⟨_, _, dp_ints ha, dp_ints hb, shaped_ints ns, shaped_ints ms, by rw [eqv_ints]; exact h⟩
end

/-! ## Heaps that grow -/
section
variable {K : PySem.W.Frag} {H H1 H' : Hp} {p q a : Addr} {o u : HO} {xs : List V}
def isTup : HO → Bool
  | .tup _ => true
  | _ => false
/-- what stood stands, no tuple is new -/
structure Sx (H H1 : Hp) : Prop where
  same : Same H H1
  nt : ∀ b xs, H1 b = some (.tup xs) → H b = some (.tup xs)
theorem sx_refl : Sx H H := ⟨fun _ _ e => e, fun _ _ e => e⟩
theorem sx_up (s : Sx H H1) (hq : H q = none) (ho : isTup o = false) : Sx H (upd H1 q o) := ⟨same_up s.same hq, fun b xs e => by
  by_cases z : b = q
  · subst z; rw [upd_same] at e; cases e; cases ho
  · rw [upd_ne z] at e; exact s.nt b xs e⟩
theorem sx_new (s : Sx H H1) (hq : H1 q = none) (ho : isTup o = false) : Sx H (upd H1 q o) := sx_up s (s.same.free hq) ho
theorem gc_sx (s : Sx H H1) : Gc H H1 H := gc_sameT s.same s.nt
theorem get_new (hq : H1 q = none) (h : H1 p = some o) : upd H1 q u p = some o := by rw [upd_ne (ne_of_none h hq)]; exact h
theorem ne_new (hq : upd H p o q = none) : q ≠ p := (upd_none.mp hq).1
theorem none_new (hq : upd H p o q = none) : H q = none := (upd_none.mp hq).2
theorem sq_new (hq : H1 q = none) (h : SqL K H1 a xs) : SqL K (upd H1 q u) a xs := sq_up hq h
end

section
variable {K : PySem.W.Frag} {H H0 H1 H' : Hp} {p q a : Addr} {o u : HO} {xs : List V}
def looseO : HO → Bool
  | .own _ => false
  | .tup _ => false
  | .frz _ _ => false
  | .tbl _ => false
  | _ => true
/-- H0 has more than H: things that may be dropped -/
structure Bs (H H0 : Hp) : Prop where
  same : Same H H0
  back : ∀ b u, H0 b = some u → looseO u = false → H b = some u
theorem bs_refl : Bs H H := ⟨fun _ _ e => e, fun _ _ e _ => e⟩
theorem bs_up (s : Bs H H1) (hq : H q = none) (ho : looseO o = true) : Bs H (upd H1 q o) := ⟨same_up s.same hq, fun b u e k => by
  by_cases z : b = q
  · subst z; rw [upd_same] at e; cases e; rw [ho] at k; cases k
  · rw [upd_ne z] at e; exact s.back b u e k⟩
theorem bs_new (s : Bs H H1) (hq : H1 q = none) (ho : looseO o = true) : Bs H (upd H1 q o) := bs_up s (s.same.free hq) ho
theorem kept_loose {o : HO} (h : kept o = true) : looseO o = false := by cases o <;> first | rfl | cases h
/-- back to a smaller heap -/
theorem gc_bs (b : Bs H H0) (s : Sx H H') : Gc H0 H' H := ⟨s.same, fun a o e => .inr ⟨b.same a o e, fun c h => b.back c _ h rfl⟩, fun c u e k => b.back c u e (kept_loose k), .inr s.nt⟩
theorem gc_bsD (b : Bs H H0) (s : Same H H') (nd : ND H) : Gc H0 H' H := ⟨s, fun a o e => .inr ⟨b.same a o e, fun c h => b.back c _ h rfl⟩, fun c u e k => b.back c u e (kept_loose k), .inl nd⟩
theorem gc_mut {p : Addr} {xs ys : List V} : Gc (upd H p (.lst xs)) (upd H p (.lst ys)) (upd H p (.lst ys)) := by
  have g : Gc (upd H p (.lst xs)) (upd (upd H p (.lst xs)) p (.lst ys)) (upd (upd H p (.lst xs)) p (.lst ys)) := gc_up gc_refl mu_atL mu_atL
  rw [upd_upd] at g
  exact g
theorem sq_same (s : Same H H1) (h : SqL K H a xs) : SqL K H1 a xs := s.seq h
end

theorem gc_one {H H0 H' : Hp} {p : Addr} {o : HO} (b : Bs H H0) (s : Sx H H') (e : H' p = some o) (f : flatO o = true := by rfl) : Gc H0 H' (upd H p o) := (gc_bs b s).put e f

theorem upd_comm {H : Hp} {p q : Addr} {o u : HO} (h : p ≠ q) : upd (upd H p o) q u = upd (upd H q u) p o := by
  funext b
  unfold upd
  by_cases e : b = q
  · subst e
    have : ¬ b = p := fun z => h z.symm
    simp [this]
  · simp [e]

section
variable {K : PySem.W.Frag} {σ : St} {H : Hp} {Q : VK} {R A B : Prop} {p a : Addr} {xs ys : List V} {y : V}
theorem z_ifR {α : Type} [DecidableEq α] {x : α} (h : A) : if decide (x = x) = true then A else B := by rw [if_pos (decide_eq_true rfl)]; exact h
theorem z_ifnR {α : Type} [DecidableEq α] {x : α} (h : B) : if (!decide (x = x)) = true then A else B := by rw [decide_eq_true (rfl : x = x)]; exact z_inT h
theorem z_ifY {c : Prop} [Decidable c] (hc : c) (h : A) : if decide c = true then A else B := by rw [if_pos (decide_eq_true hc)]; exact h
theorem z_ifN {c : Prop} [Decidable c] (hc : ¬ c) (h : B) : if decide c = true then A else B := by rw [if_neg (by rw [decide_eq_false hc]; exact Bool.false_ne_true)]; exact h
theorem z_ifnY {c : Prop} [Decidable c] (hc : c) (h : B) : if (!decide c) = true then A else B := by rw [decide_eq_true hc]; exact z_inT h
theorem z_ifnN {c : Prop} [Decidable c] (hc : ¬ c) (h : A) : if (!decide c) = true then A else B := by rw [decide_eq_false hc]; exact z_inF h
theorem z_list (hp : SqL K H p ys) (h : ∀ l, H l = none → Q (.ref l) (upd H l (.lst ys))) : rListOf K [.ref p] H Q := ⟨p, ys, rfl, .inl hp, h⟩
theorem z_bm {T : String} {r : V → List V → Hp → VK → Prop} {to : TE} {t : TA} (h : to σ H fun x H1 => tyV K T x H1 ∧ t σ H1 fun xs H2 => r x xs H2 Q) : tBM K T r to t σ H Q := h
theorem z_bm0 {T : String} {r : V → List V → Hp → VK → Prop} {to : TE} (h : to σ H fun x H1 => tyV K T x H1 ∧ r x [] H1 Q) : tBM0 K T r to σ H Q := h
theorem z_tyL (hp : SqL K H p xs) (r : R) : tyV K "list" (.ref p) H ∧ R := ⟨.inl ⟨rfl, _, hp⟩, r⟩
theorem z_app (hp : H p = some (.lst xs)) (hz : xs.length < sizeLine) (h : Q .non (upd H p (.lst (xs ++ [y])))) : rAppend (.ref p) [y] H Q := ⟨p, xs, y, rfl, rfl, hp, hz, h⟩
theorem cut_to (xs : List V) {i : Int} (h : 0 ≤ i) : cutV xs none (some i) = xs.take i.toNat := by
  unfold cutV
  have e1 : HT.sIx xs.length 0 none = 0 := rfl
  have e2 : HT.sIx xs.length xs.length (some i) = min i.toNat xs.length := if_neg (by omega)
  rw [e1, e2, List.drop_zero, Nat.sub_zero]
  by_cases l : i.toNat ≤ xs.length
  · rw [Nat.min_eq_left l]
  · rw [Nat.min_eq_right (by omega), List.take_of_length_le (Nat.le_refl _), List.take_of_length_le (by omega)]
theorem cut_from (xs : List V) {i : Int} (h : 0 ≤ i) : cutV xs (some i) none = xs.drop i.toNat := by
  unfold cutV
  have e1 : HT.sIx xs.length xs.length none = xs.length := rfl
  have e2 : HT.sIx xs.length 0 (some i) = min i.toNat xs.length := if_neg (by omega)
  rw [e1, e2]
  by_cases l : i.toNat ≤ xs.length
  · rw [Nat.min_eq_left l, List.take_of_length_le (by rw [List.length_drop]; exact Nat.le_refl _)]
  · rw [Nat.min_eq_right (by omega), Nat.sub_self, List.take_zero, List.drop_eq_nil_of_le (by omega)]
theorem cut_part (xs : List V) {i j : Int} (h : 0 ≤ i) (h' : 0 ≤ j) : cutV xs (some i) (some j) = (xs.drop i.toNat).take (j.toNat - i.toNat) := by
  unfold cutV
  have e1 : HT.sIx xs.length xs.length (some j) = min j.toNat xs.length := if_neg (by omega)
  have e2 : HT.sIx xs.length 0 (some i) = min i.toNat xs.length := if_neg (by omega)
  rw [e1, e2]
  by_cases l : i.toNat ≤ xs.length
  · rw [Nat.min_eq_left l]
    by_cases l2 : j.toNat ≤ xs.length
    · rw [Nat.min_eq_left l2]
    · rw [Nat.min_eq_right (by omega), List.take_of_length_le (by rw [List.length_drop]; exact Nat.le_refl _), List.take_of_length_le (by rw [List.length_drop]; omega)]
  · rw [Nat.min_eq_right (a := i.toNat) (by omega), List.drop_eq_nil_of_le (Nat.le_refl _), List.drop_eq_nil_of_le (by omega), List.take_nil, List.take_nil]
theorem z_slTo {i : Int} (h0 : 0 ≤ i) (hp : SqL K H a xs) (h : ∀ p, H p = none → Q (.ref p) (upd H p (.lst (xs.take i.toNat)))) : rSlZ K (.ref a) none (some i) H Q := z_slL hp fun p hp => by rw [cut_to _ h0]; exact h p hp
theorem z_slFrom {i : Int} (h0 : 0 ≤ i) (hp : SqL K H a xs) (h : ∀ p, H p = none → Q (.ref p) (upd H p (.lst (xs.drop i.toNat)))) : rSlZ K (.ref a) (some i) none H Q := z_slL hp fun p hp => by rw [cut_from _ h0]; exact h p hp
theorem z_slPart {i j : Int} (h0 : 0 ≤ i) (h1 : 0 ≤ j) (hp : SqL K H a xs) (h : ∀ p, H p = none → Q (.ref p) (upd H p (.lst ((xs.drop i.toNat).take (j.toNat - i.toNat))))) : rSlZ K (.ref a) (some i) (some j) H Q := z_slL hp fun p hp => by rw [cut_part _ h0 h1]; exact h p hp
end

section
variable {K : PySem.W.Frag} {σ σ' : St} {H : Hp} {Q : VK} {a : Addr} {ns : List Int} {t u : TS} {D : Ends} {i : Nat} {x : Option V}
theorem z_slToI {i : Int} (h0 : 0 ≤ i) (hp : SqL K H a (ns.map V.int)) (h : ∀ p, H p = none → Q (.ref p) (upd H p (.lst ((ns.take i.toNat).map V.int)))) : rSlZ K (.ref a) none (some i) H Q := z_slTo h0 hp fun p hp => by rw [← List.map_take]; exact h p hp
theorem z_slFromI {i : Int} (h0 : 0 ≤ i) (hp : SqL K H a (ns.map V.int)) (h : ∀ p, H p = none → Q (.ref p) (upd H p (.lst ((ns.drop i.toNat).map V.int)))) : rSlZ K (.ref a) (some i) none H Q := z_slFrom h0 hp fun p hp => by rw [← List.map_drop]; exact h p hp
theorem z_slPartI {i j : Int} (h0 : 0 ≤ i) (h1 : 0 ≤ j) (hp : SqL K H a (ns.map V.int)) (h : ∀ p, H p = none → Q (.ref p) (upd H p (.lst (((ns.drop i.toNat).take (j.toNat - i.toNat)).map V.int)))) : rSlZ K (.ref a) (some i) (some j) H Q := z_slPart h0 h1 hp fun p hp => by rw [← List.map_drop, ← List.map_take]; exact h p hp
theorem z_catI {a c : Addr} {ns ms : List Int} (ha : SqL K H a (ns.map V.int)) (hc : SqL K H c (ms.map V.int)) (z : ns.length + ms.length ≤ sizeLine) (h : ∀ p, H p = none → Q (.ref p) (upd H p (.lst ((ns ++ ms).map V.int)))) : rAddZ K (.ref a) (.ref c) H Q :=
  z_cat ha hc (by rw [List.length_map, List.length_map]; exact z) fun p hp => by rw [← List.map_append]; exact h p hp
theorem z_seqS (e : σ.set i x = σ') (h : tSeq t u D σ' H) : tSeq t u D (σ.set i x) H := by rw [e]; exact h
theorem z_eqLN {a b : Addr} {xs ys : List V} {ns ms : List Int} (e1 : xs = ns.map V.int) (e2 : ys = ms.map V.int) (ha : SqL K H a xs) (hb : SqL K H b ys) (h : Q (.bl (decide (ns = ms))) H) : rEqZ K (.ref a) (.ref b) H Q := by subst e1 e2; exact z_eqL ha hb h
theorem z_neLN {a b : Addr} {xs ys : List V} {ns ms : List Int} (e1 : xs = ns.map V.int) (e2 : ys = ms.map V.int) (ha : SqL K H a xs) (hb : SqL K H b ys) (h : Q (.bl (!decide (ns = ms))) H) : rNeZ K (.ref a) (.ref b) H Q := by subst e1 e2; exact z_neL ha hb h
end

section
variable {K : PySem.W.Frag} {H : Hp} {Q : VK} {n : Nat}
theorem shl_pos : (0 : Int) < 1 * 2 ^ n := by rw [Int.one_mul]; exact Int.pow_pos (by decide)
def rMin2 : List V → Hp → VK → Prop := fun xs H Q => ∃ i j, xs = [.int i, .int j] ∧ Q (.int (if j < i then j else i)) H
def rMax2 : List V → Hp → VK → Prop := fun xs H Q => ∃ i j, xs = [.int i, .int j] ∧ Q (.int (if j > i then j else i)) H
theorem call_min2Z {X : Cx} (hc : X.calm = true) : CallR X (.builtin "min") rMin2 := call_min2 hc
theorem call_max2Z {X : Cx} (hc : X.calm = true) : CallR X (.builtin "max") rMax2 := call_max2 hc
theorem z_min2 {i j : Int} (h : Q (.int (min i j)) H) : rMin2 [.int i, .int j] H Q := ⟨i, j, rfl, by
  have e : (if j < i then j else i) = min i j := by
    by_cases l : j < i
    · rw [if_pos l]; omega
    · rw [if_neg l]; omega
  rw [e]; exact h⟩
theorem z_max2 {i j : Int} (h : Q (.int (max i j)) H) : rMax2 [.int i, .int j] H Q := ⟨i, j, rfl, by
  have e : (if j > i then j else i) = max i j := by
    by_cases l : j > i
    · rw [if_pos l]; omega
    · rw [if_neg l]; omega
  rw [e]; exact h⟩
end

section
variable {K : PySem.W.Frag} {H : Hp} {Q : VK} {a b : Bool}
theorem z_eqB (h : Q (.bl (decide (a = b))) H) : rEqZ K (.bl a) (.bl b) H Q := .inl ⟨rfl, by
  have e : decide (V.bl a = V.bl b) = decide (a = b) := by simp
  rw [e]; exact h⟩
theorem z_neB (h : Q (.bl (!decide (a = b))) H) : rNeZ K (.bl a) (.bl b) H Q := .inl ⟨rfl, by
  have e : decide (V.bl a = V.bl b) = decide (a = b) := by simp
  rw [e]; exact h⟩
end

/-! ## Objects of one's own classes -/
def rFld (K : PySem.W.Frag) (f : Str) (x : V) (H : Hp) (Q : VK) : Prop := ∃ a C dx fs v, x = .ref a ∧ H a = some (.ins C dx fs) ∧ Cls K C ∧ NoAttr K C f ∧ fs.lookup f = some v ∧ Q v H
def wFld (K : PySem.W.Frag) (f : Str) (x y : V) (H : Hp) (R : Hp → Prop) : Prop := ∃ a C dx fs, x = .ref a ∧ H a = some (.ins C dx fs) ∧ Cls K C ∧ NoAttr K C f ∧ fs.length < 1000 ∧ R (upd H a (.ins C dx (putF f y fs)))
def aFld (a C : Addr) (f : Str) (z : V) (H : Hp) (R : Hp → Prop) : Prop := ∃ dx fs, H a = some (.ins C dx fs) ∧ fs.length < 1000 ∧ R (upd H a (.ins C dx (putF f z fs)))
def bFld (K : PySem.W.Frag) (f : Str) (x : V) (H : Hp) (R : Addr → Addr → V → Hp → Prop) : Prop := ∃ a C dx fs v, x = .ref a ∧ H a = some (.ins C dx fs) ∧ Cls K C ∧ NoAttr K C f ∧ fs.lookup f = some v ∧ R a C v H
section
variable {K : PySem.W.Frag} {σ : St} {H : Hp} {nx bk ct : St → Hp → Prop} {rt : VK} {ta tv : TE} {Q : VK} {f : Str}
theorem z_fld (h : ta σ H fun x H1 => rFld K f x H1 Q) : tFld K ta f σ H Q := h
theorem z_sfld (h : tv σ H fun y H1 => ta σ H1 fun x H2 => wFld K f x y H2 fun H3 => nx σ H3) : sFld K ta tv f ⟨nx, rt, bk, ct⟩ σ H := h
theorem z_sfldA {rd : V → V → Hp → VK → Prop} (h : ta σ H fun x H1 => bFld K f x H1 fun a C v H1 => tv σ H1 fun y H2 => rd v y H2 fun z H3 => aFld a C f z H3 fun H4 => nx σ H4) : sFldAug K ta tv rd f ⟨nx, rt, bk, ct⟩ σ H := h
theorem z_rAdd {i j : Int} (h : Q (.int (i + j)) H) : rAdd (.int i) (.int j) H Q := ⟨i, j, rfl, rfl, h⟩
theorem z_rSub {i j : Int} (h : Q (.int (i - j)) H) : rSub (.int i) (.int j) H Q := ⟨i, j, rfl, rfl, h⟩
theorem lkf_hd {k : Str} {v : V} {r : List (Str × V)} : List.lookup k ((k, v) :: r) = some v := by simp [List.lookup]
theorem lkf_tl {k g : Str} {v : V} {r : List (Str × V)} {o : Option V} (h : (k == g) = false) (e : List.lookup k r = o) : List.lookup k ((g, v) :: r) = o := by simp only [List.lookup, h]; exact e
theorem lkf_nil {k : Str} : List.lookup k ([] : List (Str × V)) = none := rfl
theorem ptf_hd {k : Str} {v u : V} {r : List (Str × V)} : putF k v ((k, u) :: r) = (k, v) :: r := if_pos rfl
theorem ptf_tl {k g : Str} {v u : V} {r r' : List (Str × V)} (h : ¬ g = k) (e : putF k v r = r') : putF k v ((g, u) :: r) = (g, u) :: r' := by rw [← e]; exact if_neg h
theorem ptf_nil {k : Str} {v : V} : putF k v [] = [(k, v)] := rfl
/-- methods -/
def rMeth (C : Addr) (m : Str) (R : V → Hp → Prop) (x : V) (H : Hp) : Prop := ∃ a dx fs, x = .ref a ∧ H a = some (.ins C dx fs) ∧ fs.lookup m = none ∧ R x H
def tMethZ (C : Addr) (m : Str) (sp : Sp) (dvs : List V) (E : XK) (ta : TE) (t : TA) : TE := fun σ H Q => ta σ H fun x H1 => rMeth C m (fun x H1 => t σ H1 fun vs H2 => sp (x :: (vs ++ dvs)) H2 Q E) x H1
theorem z_meth {C : Addr} {m : Str} {sp : Sp} {E : XK} {t : TA} (h : ta σ H fun x H1 => rMeth C m (fun x H1 => t σ H1 fun vs H2 => sp (x :: (vs ++ [])) H2 Q E) x H1) : tMeth C m sp [] E ta t σ H Q := h
theorem z_methR {C a dx : Addr} {m : Str} {fs : List (Str × V)} {R : V → Hp → Prop} (ho : H a = some (.ins C dx fs)) (hl : fs.lookup m = none) (h : R (.ref a) H) : rMeth C m R (.ref a) H := ⟨a, dx, fs, rfl, ho, hl, h⟩
def rMake (C : Addr) (sp : Sp) (E : XK) (dvs : List V) (Q : VK) (vs : List V) (H1 : Hp) : Prop := ∀ x dx, H1 x = none → H1 dx = none → dx ≠ x →
  sp (.ref x :: (vs ++ dvs)) (upd (upd H1 dx (.own x)) x (.ins C dx [])) (fun v H2 => v = .non ∧ Q (.ref x) H2) E
theorem z_make {C : Addr} {sp : Sp} {E : XK} {t : TA} {dvs : List V} (h : t σ H fun vs H1 => rMake C sp E dvs Q vs H1) : tMake C sp dvs E t σ H Q := h
end
section
variable {X : Cx} {CX : CXT} {k : Nat} {f C : Addr} {fd : FuncData} {ps : List Str} {sp : Sp} {E : XK} {x m : Str} {p pos apos : Pos} {e o : Expr} {es : List Expr} {ta : TE} {t : TA}
theorem pe_methZ {pl : Sem Bool} (he : PE X o ta) (c : Cls X.K C) (hm : Meth X.K C m f) (F : FnOk X.prog X.w X.K X.mg X.base CX k f fd ps sp) (hr : Room k X.A) (hb : Binds X.K fd ps []) (hx : Passes CX X E) (ha : PA X (e :: es) t)
    (hst : starEach (e :: es) X.env = (false, eval e X.env) :: starEach es X.env := by rfl) (hpl : (backTo pos (starEach es X.env)).any (·.1) = false := by rfl)
    (ht : eval (.Call (.Attribute o m apos) (e :: es) [] pos) X.env = (do
      let ov ← eval o X.env
      standAt apos.atName
      let (f, first) ← holding [ov] (getMethod ov m pl)
      callWith pos f first (backTo pos (starEach (e :: es) X.env)) (backToKw pos (keywordEach [] X.env))) := by rfl) :
    PE X (.Call (.Attribute o m apos) (e :: es) [] pos) (tMeth C m sp [] E ta t) := pe_meth (pl := pl) he c hm F hr hb .nil hx ha hst hpl ht
theorem pe_meth0Z {pl : Sem Bool} (he : PE X o ta) (c : Cls X.K C) (hm : Meth X.K C m f) (F : FnOk X.prog X.w X.K X.mg X.base CX k f fd ps sp) (hr : Room k X.A) (hb : Binds X.K fd ps []) (hx : Passes CX X E)
    (ht : eval (.Call (.Attribute o m apos) [] [] pos) X.env = (do
      let ov ← eval o X.env
      standAt apos.atName
      let (f, first) ← holding [ov] (getMethod ov m pl)
      callWith pos f first (backTo pos (starEach [] X.env)) (backToKw pos (keywordEach [] X.env))) := by rfl) :
    PE X (.Call (.Attribute o m apos) [] [] pos) (tMeth C m sp [] E ta tNil) := pe_meth0 (pl := pl) he c hm F hr hb .nil hx ht
theorem ps_fldZ {K : PySem.W.Frag} {value : Expr} {f : Str} {pos' : Pos} {tv : TE} (hK : X.K = K) (ha : PE X o ta) (hv : PE X value tv) (hs : swapsWith value (some (.Attribute o f pos')) pos.line X.env = pure false) : PS X (.Assign [.Attribute o f pos'] value pos) (sFld K ta tv f) := by subst hK; exact ps_fld ha hv hs
theorem ps_fldaugZ {K : PySem.W.Frag} {value : Expr} {f : Str} {tpos : Pos} {tv : TE} {op : Operator} {rd : V → V → Hp → VK → Prop} (hK : X.K = K) (ha : PE X o ta) (hv : PE X value tv) (hop : InOp X op rd) : PS X (.AugAssign (.Attribute o f tpos) op value pos) (sFldAug K ta tv rd f) := by subst hK; exact ps_fldaug ha hv hop
end
/-! ## Plain loops, a range by steps -/
section
variable {K : PySem.W.Frag} {σ : St} {H H0 : Hp} {nx bk ct : St → Hp → Prop} {rt : VK} {tb : TS} {g : TG} {a : Addr} {xs : List V} {tr : TA} {te : TE}
theorem z_pforR1 (h : tr σ H fun vs H1 => ∃ n : Int, vs = [.int n] ∧ -(2 ^ 62) ≤ n ∧ n < 2 ^ 62 ∧ ForZ (Itr 0 n.toNat) g tb ⟨nx, rt, bk, ct⟩ σ H1) : tFor (iRng1 tr) g tb ⟨nx, rt, bk, ct⟩ σ H := h
theorem z_pforR3 (h : tr σ H fun vs H1 => ∃ (i j c : Int) (n : Nat), vs = [.int i, .int j, .int c] ∧ RgC i j c n ∧ ForZ (Itc i c n) g tb ⟨nx, rt, bk, ct⟩ σ H1) : tFor (iRng3 tr) g tb ⟨nx, rt, bk, ct⟩ σ H := h
theorem z_forR3 (h : tr σ H fun vs H1 => ∃ (i j c : Int) (n : Nat), vs = [.int i, .int j, .int c] ∧ RgC i j c n ∧ ForZ (Itc i c n) g (sGcE H tb) ⟨nx, rt, bk, ct⟩ σ H1) : tForZ (iRng3 tr) g tb ⟨nx, rt, bk, ct⟩ σ H := h
theorem z_pforL (h : te σ H fun x H1 => ∃ a, x = .ref a ∧ (∃ xs, SqL K H1 a xs) ∧ ForZ (Itl K a) g tb ⟨nx, rt, bk, ct⟩ σ H1) : tFor (iList K te) g tb ⟨nx, rt, bk, ct⟩ σ H := h
theorem p_range {lo : Int} {n : Nat} (Pv : Nat → St → Hp → Prop) (h0 : Pv 0 σ H)
    (hs : ∀ i σ H, i < n → Pv i σ H → g (.int (lo + i)) σ H fun σ2 H2 => tb ⟨Pv (i + 1), rt, nx, Pv (i + 1)⟩ σ2 H2) (hd : ∀ σ H, Pv n σ H → nx σ H) : ForZ (Itr lo n) g tb ⟨nx, rt, bk, ct⟩ σ H := for_range (D := ⟨nx, rt, bk, ct⟩) (tb := tb) Pv h0 hs hd
theorem p_rangeC {lo c : Int} {n : Nat} (Pv : Nat → St → Hp → Prop) (h0 : Pv 0 σ H)
    (hs : ∀ i σ H, i < n → Pv i σ H → g (.int (lo + (i : Nat) * c)) σ H fun σ2 H2 => tb ⟨Pv (i + 1), rt, nx, Pv (i + 1)⟩ σ2 H2) (hd : ∀ σ H, Pv n σ H → nx σ H) : ForZ (Itc lo c n) g tb ⟨nx, rt, bk, ct⟩ σ H := for_rangeC (D := ⟨nx, rt, bk, ct⟩) (tb := tb) Pv h0 hs hd
theorem f_rangeC {lo c : Int} {n : Nat} (Pv : Nat → St → Hp → Prop) (h0 : Pv 0 σ H)
    (hs : ∀ i σ H, i < n → Pv i σ H → g (.int (lo + (i : Nat) * c)) σ H fun σ2 H2 => tb ⟨fun σ' H' => ∃ G, Gc H0 H' G ∧ Pv (i + 1) σ' G, fun v H' => ∃ G, Gc H0 H' G ∧ rt v G, fun σ' H' => ∃ G, Gc H0 H' G ∧ nx σ' G, fun σ' H' => ∃ G, Gc H0 H' G ∧ Pv (i + 1) σ' G⟩ σ2 H2) (hd : ∀ σ H, Pv n σ H → nx σ H) : ForZ (Itc lo c n) g (sGcE H0 tb) ⟨nx, rt, bk, ct⟩ σ H := for_rangeC (D := ⟨nx, rt, bk, ct⟩) (tb := sGcE H0 tb) Pv h0 hs hd
theorem z_rn3d {R : Int → Int → Int → Nat → Prop} {m n : Int} (h0 : -(2 ^ 62) ≤ m) (h1 : m < 2 ^ 62) (h2 : -(2 ^ 62) ≤ n) (h3 : n < 2 ^ 62) (h : R m n (-1) (m - n).toNat) : ∃ (i j c : Int) (k : Nat), [V.int m, V.int n, V.int (-1)] = [V.int i, V.int j, V.int c] ∧ RgC i j c k ∧ R i j c k :=
  ⟨m, n, -1, _, rfl, RgC.neg h0 h1 h2 h3, h⟩
theorem p_list (Pv : Nat → St → Hp → Prop) (h0 : Pv 0 σ H) (hl : ∀ i σ H, i ≤ xs.length → Pv i σ H → SqL K H a xs)
    (hs : ∀ i x σ H, xs[i]? = some x → Pv i σ H → g x σ H fun σ2 H2 => tb ⟨Pv (i + 1), rt, nx, Pv (i + 1)⟩ σ2 H2) (hd : ∀ σ H, Pv xs.length σ H → nx σ H) : ForZ (Itl K a) g tb ⟨nx, rt, bk, ct⟩ σ H := for_list (D := ⟨nx, rt, bk, ct⟩) (tb := tb) Pv h0 hl hs hd
end
/-! ## Dicts with written keys -/
def rDGet (x y : V) (H : Hp) (Q : VK) : Prop := ∃ a v, x = .ref a ∧ DGet H a y (some v) ∧ Q v H
def rDPut (x y v : V) (H : Hp) (R : Hp → Prop) : Prop := ∃ a H4, x = .ref a ∧ DPut H a y v H4 ∧ R H4
section
variable {σ : St} {H : Hp} {nx bk ct : St → Hp → Prop} {rt : VK} {td ty tv : TE} {Q : VK} {a : Addr} {kvs : List (Key × V)} {v : V} {s : Str} {R : Hp → Prop}
theorem z_dget (h : td σ H fun x H1 => ty σ H1 fun y H2 => rDGet x y H2 Q) : tDGet td ty σ H Q := h
theorem z_dput (h : tv σ H fun v H1 => td σ H1 fun x H2 => ty σ H2 fun y H3 => rDPut x y v H3 fun H4 => nx σ H4) : sDPut td ty tv ⟨nx, rt, bk, ct⟩ σ H := h
theorem z_dgetS (ha : H a = some (.dK kvs)) (e : valV kvs (Sum.inr s) = some v) (h : Q v H) : rDGet (.ref a) (.str s) H Q := ⟨a, v, rfl, e ▸ DGet.k (k := Sum.inr s) ha, h⟩
theorem z_dgetI {i : Int} (ha : H a = some (.dK kvs)) (e : valV kvs (Sum.inl i) = some v) (h : Q v H) : rDGet (.ref a) (.int i) H Q := ⟨a, v, rfl, e ▸ DGet.k (k := Sum.inl i) ha, h⟩
theorem z_dputS (ha : H a = some (.dK kvs)) (hz : kvs.length < sizeLine) (h : R (upd H a (.dK (putK kvs (Sum.inr s) v)))) : rDPut (.ref a) (.str s) v H R := ⟨a, _, rfl, DPut.k (k := Sum.inr s) ha hz, h⟩
theorem z_dputI {i : Int} (ha : H a = some (.dK kvs)) (hz : kvs.length < sizeLine) (h : R (upd H a (.dK (putK kvs (Sum.inl i) v)))) : rDPut (.ref a) (.int i) v H R := ⟨a, _, rfl, DPut.k (k := Sum.inl i) ha hz, h⟩
end
section
variable {X : Cx} {K : PySem.W.Frag} {H : Hp} {Q : VK}
/-- is, is not: with None, of two truth values -/
theorem op_isB : OpR X (compareOp .Is) (fun x y H Q => ∃ b c, x = .bl b ∧ y = .bl c ∧ Q (.bl (b == c)) H) := by
  intro pins s σ H x y v u Q I rx ry h
  obtain ⟨b, c, rfl, rfl, q⟩ := h
  cases rx
  cases ry
  cases b <;> cases c <;> exact PySem.wpAny_pure (fin_bl I q rfl)
theorem op_isnB : OpR X (compareOp .IsNot) (fun x y H Q => ∃ b c, x = .bl b ∧ y = .bl c ∧ Q (.bl (!(b == c))) H) := by
  intro pins s σ H x y v u Q I rx ry h
  obtain ⟨b, c, rfl, rfl, q⟩ := h
  cases rx
  cases ry
  cases b <;> cases c <;> exact PySem.wpAny_pure (fin_bl I q rfl)
def rIsZ : R2 := fun x y H Q => (y = .non ∧ Q (.bl (decide (x = .non))) H) ∨ ∃ b c, x = .bl b ∧ y = .bl c ∧ Q (.bl (b == c)) H
def rIsnZ : R2 := fun x y H Q => (y = .non ∧ Q (.bl (!decide (x = .non))) H) ∨ ∃ b c, x = .bl b ∧ y = .bl c ∧ Q (.bl (!(b == c))) H
theorem op_isZ : OpR X (compareOp .Is) rIsZ := op_isN.or op_isB
theorem op_isnZ : OpR X (compareOp .IsNot) rIsnZ := op_notN.or op_isnB
theorem z_isTT (h : Q (.bl true) H) : rIsZ (.bl true) (.bl true) H Q := .inr ⟨true, true, rfl, rfl, h⟩
theorem z_isTB {b : Bool} (h : Q (.bl b) H) : rIsZ (.bl b) (.bl true) H Q := .inr ⟨b, true, rfl, rfl, by cases b <;> exact h⟩
theorem z_isnTB {b : Bool} (h : Q (.bl (!b)) H) : rIsnZ (.bl b) (.bl true) H Q := .inr ⟨b, true, rfl, rfl, by cases b <;> exact h⟩
theorem z_isN (h : Q (.bl true) H) : rIsZ .non .non H Q := .inl ⟨rfl, h⟩
theorem z_isnN (h : Q (.bl false) H) : rIsnZ .non .non H Q := .inl ⟨rfl, h⟩
theorem z_isNr {a : Addr} (h : Q (.bl false) H) : rIsZ (.ref a) .non H Q := .inl ⟨rfl, h⟩
theorem z_isnNr {a : Addr} (h : Q (.bl true) H) : rIsnZ (.ref a) .non H Q := .inl ⟨rfl, h⟩
theorem z_isNi {i : Int} (h : Q (.bl false) H) : rIsZ (.int i) .non H Q := .inl ⟨rfl, h⟩
theorem z_isnNi {i : Int} (h : Q (.bl true) H) : rIsnZ (.int i) .non H Q := .inl ⟨rfl, h⟩
end

section
variable {K : PySem.W.Frag} {σ : St} {H : Hp} {Q : St → Hp → Prop} {QV : VK} {a : Addr} {xs : List V} {v : V} {n : Nat} {t : TG} {u : TGs}
theorem z_gtup (ha : SqT K H a xs) (hl : xs.length = n) (h : u xs σ H Q) : gTup K n u (.ref a) σ H Q := ⟨a, xs, rfl, ha, hl, h⟩
theorem z_gcons {r : List V} (h : t v σ H fun σ' H' => u r σ' H' Q) : gCons t u (v :: r) σ H Q := ⟨v, r, rfl, h⟩
theorem z_gnil (h : Q σ H) : gNil [] σ H Q := ⟨rfl, h⟩
theorem st_new {p : Addr} {o : HO} (hp : H p = none) (h : SqT K H a xs) : SqT K (upd H p o) a xs := by
  rcases h with (h | ⟨ob, h⟩) | h
  · exact .inl (.inl (by rw [upd_ne (ne_of_none h hp)]; exact h))
  · exact .inl (.inr ⟨ob, by rw [upd_ne (ne_of_none h hp)]; exact h⟩)
  · exact .inr h
theorem z_allT {α : Type} {ys : List α} (ha : SqL K H a (ys.map fun _ => V.bl true)) (h : QV (.bl true) H) : rAll K [.ref a] H QV := by
  refine ⟨a, ys.map fun _ => true, rfl, by rw [List.map_map]; exact ha, ?_⟩
  have e : (ys.map fun _ => true).all id = true := by simp
  rw [e]; exact h
theorem z_all {bs : List Bool} (ha : SqL K H a (bs.map V.bl)) (h : QV (.bl (bs.all id)) H) : rAll K [.ref a] H QV := ⟨a, bs, rfl, ha, h⟩
theorem z_any {bs : List Bool} (ha : SqL K H a (bs.map V.bl)) (h : QV (.bl (bs.any id)) H) : rAny K [.ref a] H QV := ⟨a, bs, rfl, ha, h⟩
end

section
variable {H : Hp} {a b : Addr} {o o' u : HO}
theorem upd_self (h : H a = some o) : upd H a o = H := by
  funext b
  unfold upd
  by_cases e : b = a
  · subst e; simp [h]
  · simp [e]
theorem upd_swap (h : a ≠ b) : upd (upd (upd H a o) b u) a o' = upd (upd H a o') b u := by
  rw [upd_comm h, upd_upd, upd_comm h.symm]
theorem get_ne (h : b ≠ a) (e : H b = some u) : upd H a o b = some u := by rw [upd_ne h]; exact e
end

theorem cshl {N M j : Nat} (h : N < 2 ^ M) (hz : M + j ≤ 100000000) : CShl (N : Int) (j : Int) := ⟨by omega, by
  have := PyProof.Rows.intBits_le (a := (N : Int)) (k := M) (by rw [Int.natAbs_natCast]; exact h)
  omega⟩

theorem gc_tup {H H0 H1 : Hp} {p : Addr} {xs : List V} (b : Bs H H0) (s : Sx H H1) (hp : H1 p = none) : Gc H0 (upd H1 p (.tup xs)) (upd H p (.tup xs)) where
  sub := fun a o e => by
    by_cases q : a = p
    · subst q; rw [upd_same] at e ⊢; exact e
    · rw [upd_ne q] at e ⊢; exact s.same a o e
  ok := fun a o e => by
    by_cases q : a = p
    · subst q; rw [upd_same] at e; cases e; exact .inl trivial
    · rw [upd_ne q] at e
      refine .inr ⟨b.same a o e, fun c hc => ?_⟩
      have h1 := b.back c _ hc rfl
      rw [upd_ne (ne_of_none h1 (s.same.free hp))]
      exact h1
  keep := fun c u e k => by
    have h1 := b.back c u e (kept_loose k)
    rw [upd_ne (ne_of_none h1 (s.same.free hp))]
    exact h1
  dt := .inr fun c ys e => by
    by_cases q : c = p
    · subst q; rw [upd_same] at e ⊢; exact e
    · rw [upd_ne q] at e ⊢; exact s.nt c ys e
theorem and255 (X t : Nat) : Builtin.bitAnd ((X : Int) / 2 ^ t) 255 = ((X / 2 ^ t % 256 : Nat) : Int) := by
  have e1 : ((X : Int) / 2 ^ t) = ((X / 2 ^ t : Nat) : Int) := by
    rw [Int.natCast_ediv]
    first | done | (congr 1; exact PyProof.Rows.two_pow_cast _) | simp
  have e2 : Builtin.bitAnd ((X / 2 ^ t : Nat) : Int) 255 = ((X / 2 ^ t &&& 255 : Nat) : Int) := and_nat _ 255
  have e3 := Nat.and_two_pow_sub_one_eq_mod (X / 2 ^ t) 8
  rw [show (2 ^ 8 - 1 : Nat) = 255 from rfl] at e3
  rw [e1, e2, e3]
theorem shl_nat (N j : Nat) : (N : Int) * 2 ^ ((j : Int)).toNat = ((N * 2 ^ j : Nat) : Int) := by rw [Int.toNat_natCast, PyProof.Rows.two_pow_cast, Int.natCast_mul]

theorem z_setV {H : Hp} {a : Addr} {xs : List V} {i : Int} {v : V} {R : Hp → Prop} (ha : H a = some (.lst xs)) (h0 : 0 ≤ i) (h1 : i < xs.length) (h : R (upd H a (.lst (xs.set i.toNat v)))) : rSetL (.ref a) (.int i) v H R :=
  ⟨a, _, i, i.toNat, rfl, rfl, ha, by unfold ixN; rw [if_pos h0, if_pos h1], h⟩

section
variable {σ : St} {H : Hp} {Q : VK} {tk tv : TE} {r : List (TE × TE)} {QP : List (V × V) → Hp → Prop}
theorem z_disp {trs : List (TE × TE)} (h : ∀ p, H p = none → tPairs trs σ (upd H p (.dK [])) fun ps H2 => H2 p = some (.dK []) ∧ ∃ kvs : List (Key × V), ps = kvs.map (fun kv => (kV kv.1, kv.2)) ∧ kvs.length ≤ 15 ∧ Q (.ref p) (upd H2 p (.dK (mergeK [] kvs)))) : tDisp trs σ H Q := h
theorem z_pcons (h : tk σ H fun x H1 => tv σ H1 fun y H2 => tPairs r σ H2 fun ps H3 => QP ((x, y) :: ps) H3) : tPairs ((tk, tv) :: r) σ H QP := h
theorem z_pnil (h : QP [] H) : tPairs [] σ H QP := h
end

theorem p_ints {K : PySem.W.Frag} {σ : St} {H : Hp} {nx bk ct : St → Hp → Prop} {rt : VK} {tb : TS} {g : TG} {a : Addr} {ns : List Int} (Pv : Nat → St → Hp → Prop) (h0 : Pv 0 σ H) (hl : ∀ i σ H, i ≤ ns.length → Pv i σ H → SqL K H a (ns.map V.int))
    (hs : ∀ (i : Nat) (n : Int) σ H, ns[i]? = some n → Pv i σ H → g (.int n) σ H fun σ2 H2 => tb ⟨Pv (i + 1), rt, nx, Pv (i + 1)⟩ σ2 H2) (hd : ∀ σ H, Pv ns.length σ H → nx σ H) : ForZ (Itl K a) g tb ⟨nx, rt, bk, ct⟩ σ H :=
  p_list (xs := ns.map V.int) Pv h0 (fun i σ H hi => hl i σ H (by rw [List.length_map] at hi; exact hi)) (fun i x σ H hx p => by
    rw [List.getElem?_map] at hx
    cases e : ns[i]? with
    | none => rw [e] at hx; cases hx
    | some n => rw [e] at hx; cases hx; exact hs i n σ H e p) (fun σ H p => hd σ H (by rw [List.length_map] at p; exact p))

/-! ## defs with defaults -/
section
variable {P : Program} {w : World} {K : PySem.W.Frag} {mg : Str → Option Value} {base : Heap}
theorem fd_ok {x qual : Str} {st : Stmt} {f : Addr} {fd : FuncData} {N ps : List Str} {k : Nat} {sp : Sp} {dvs : List V} (F : FunD K x qual (defArgs st) (defBody st) (defScope st) dvs [] f fd) (S : FnScope N ps (defScope st)) (len : ∀ vs H Q E, sp vs H Q E → vs.length = ps.length)
    (hbody : ∀ (cdv : Value) (A : Around) (outer : List Env) (s : Shared) (H : Hp) (vs : List V) (Q : VK) (E : XK), Room k (A.deeper (PyProof.Rows.envOfC qual (defScope st) s.heap.objs.size f cdv)) → sp vs H Q E →
      ∃ t, PSs (cxOf CX0 P w K mg base N qual (defScope st) f cdv A outer s H E).nox (defBody st) t ∧ t { nx := fun _ H' => Q .non H', rt := Q } (start N vs) H) : FnOk P w K mg base CX0 (k + 1) f fd ps sp := by
  obtain ⟨oc, od, dV, kV, doc, pm, an, cdv, ct, osl, rfl, lk, hcd, _, _⟩ := F.ex
  refine fn_of lk hcd S len fun A outer s H vs Q E hr hsp => ?_
  obtain ⟨t, h, q⟩ := hbody cdv A outer s H vs Q E hr hsp
  exact ⟨t, h.nox, q⟩
theorem fd_mk {x qual : Str} {st : Stmt} {f T : Addr} {oc : Value} {od an : Option Addr} {osl : Array (Option Value)} {kV doc pm cdv ct : Value} {o : Obj} {its : List Value} {n : Nat} {dvs : List V} (l : K.lookup f = some ⟨oc, od, .func (PySem.W.fnOf x qual (defArgs st) (defBody st) (defScope st) (.ref T) kV doc pm an cdv ct), osl⟩)
    (c : PySem.W.codeIn K cdv qual = true) (k : PySem.W.keepIn K (.ref f) = true) (lt : K.lookup T = some o) (ot : o.data = .seq its.toArray n) (r : Vals dvs its) (hd : dvs ≠ []) :
    FunD K x qual (defArgs st) (defBody st) (defScope st) dvs [] f (PySem.W.fnOf x qual (defArgs st) (defBody st) (defScope st) (.ref T) kV doc pm an cdv ct) :=
  ⟨⟨oc, od, _, kV, doc, pm, an, cdv, ct, osl, rfl, l, c, Or.inr ⟨hd, T, o, its, n, rfl, lt, ot, r⟩, Or.inl rfl⟩, k⟩
end
/-- C(.., k = v): as rMake -/
def rMakeN (C : Addr) (n m : Nat) (sp : Sp) (gV : List V → List V → List V) (E : XK) (Q : VK) (vs zs : List V) (H2 : Hp) : Prop := vs.length = n ∧ zs.length = m ∧
  ∀ x dx, H2 x = none → H2 dx = none → dx ≠ x → sp (gV (.ref x :: vs) zs) (upd (upd H2 dx (.own x)) x (.ins C dx [])) (fun v H3 => v = .non ∧ Q (.ref x) H3) E
theorem z_makeN {C : Addr} {n m : Nat} {sp : Sp} {gV : List V → List V → List V} {E : XK} {t tk : TA} {σ : St} {H : Hp} {Q : VK} (h : t σ H fun vs H1 => tk σ H1 fun zs H2 => rMakeN C n m sp gV E Q vs zs H2) : tMakeN C n m sp gV E t tk σ H Q := h
/-! ## membership, reversing -/
theorem op_inZ {X : Cx} {K : PySem.W.Frag} (hK : X.K = K) : OpR X (compareOp .In) (rIn K false) := by rw [← hK]; exact op_in_seq
theorem z_inB {K : PySem.W.Frag} {H : Hp} {Q : VK} {b : Bool} {p : Addr} {xs : List V} (hp : SqL K H p xs) (hf : xs.all flatV = true) (h : Q (.bl (inV (.bl b) xs)) H) : rIn K false (.bl b) (.ref p) H Q := ⟨p, xs, rfl, Or.inl hp, rfl, hf, h⟩
theorem z_inI {K : PySem.W.Frag} {H : Hp} {Q : VK} {i : Int} {p : Addr} {xs : List V} (hp : SqL K H p xs) (hf : xs.all flatV = true) (h : Q (.bl (inV (.int i) xs)) H) : rIn K false (.int i) (.ref p) H Q := ⟨p, xs, rfl, Or.inl hp, rfl, hf, h⟩
theorem z_rev {H : Hp} {Q : VK} {l : Addr} {xs : List V} (hl : H l = some (.lst xs)) (h : Q .non (upd H l (.lst xs.reverse))) : rReverse (.ref l) [] H Q := ⟨l, xs, rfl, rfl, hl, h⟩
/-! ## a statement whose ways meet again -/
def sJ (t : TS) : TS := t
theorem ps_J {X : Cx} {st : Stmt} {t : TS} (h : PS X st t) : PS X st (sJ t) := h
theorem z_J {t : TS} {nx bk ct : St → Hp → Prop} {rt : VK} {σ : St} {H : Hp} (R : St → Hp → Prop) (h1 : ∀ N : St → Hp → Prop, (∀ σ' H', R σ' H' → N σ' H') → t ⟨N, rt, bk, ct⟩ σ H) (h2 : ∀ σ' H', R σ' H' → nx σ' H') : sJ t ⟨nx, rt, bk, ct⟩ σ H := h1 nx h2
/-! ## calls that may raise, at the slots as they stand -/
section
variable {X : Cx} {CX : CXT} {k : Nat} {f C : Addr} {fd : FuncData} {ps : List Str} {sp : Sp} {E : St → XK} {x m : Str} {p pos apos : Pos} {e o : Expr} {es : List Expr} {ta : TE} {t : TA}
def tMethS (C : Addr) (m : Str) (sp : Sp) (E : St → XK) (ta : TE) (t : TA) : TE := fun σ H Q => ta σ H fun x H1 => rMeth C m (fun x H1 => t σ H1 fun vs H2 => sp (x :: (vs ++ [])) H2 Q (E σ)) x H1
theorem pe_methS {pl : Sem Bool} (he : PE X o ta) (c : Cls X.K C) (hm : Meth X.K C m f) (F : FnOk X.prog X.w X.K X.mg X.base CX k f fd ps sp) (hr : Room k X.A) (hb : Binds X.K fd ps []) (hx : ∀ σ, PassesAt CX X σ (E σ)) (ha : PA X (e :: es) t)
    (hst : starEach (e :: es) X.env = (false, eval e X.env) :: starEach es X.env := by rfl) (hpl : (backTo pos (starEach es X.env)).any (·.1) = false := by rfl)
    (ht : eval (.Call (.Attribute o m apos) (e :: es) [] pos) X.env = (do
      let ov ← eval o X.env
      standAt apos.atName
      let (f, first) ← holding [ov] (getMethod ov m pl)
      callWith pos f first (backTo pos (starEach (e :: es) X.env)) (backToKw pos (keywordEach [] X.env))) := by rfl) :
    PE X (.Call (.Attribute o m apos) (e :: es) [] pos) (tMethS C m sp E ta t) := by
  refine ⟨fun pins s σ H Q I h => ?_⟩
  refine PySem.W.methodCall_KW (pl := pl) (thn (he.run pins s σ H _ I h) fun u s1 ⟨x, H1, I1, rx, a, dx, fs, ex, ea, l, q⟩ => ?_) ht
  subst ex
  obtain rfl : u = Value.ref a := rx
  refine getmeth_ok I1 ea c hm l ?_
  refine PySem.W.callWith_K (first := [.ref a]) (h₀ := X.base) I.ok.mod.kin hm.kp (thn (ha.run pos pins s1 σ H1 _ I1 q) fun us s2 ⟨vs, H2, I2, r, q2⟩ => ⟨I2.kIn, ?_⟩) hst hpl
  have q3 : sp (V.ref a :: vs) H2 Q (E σ) := by have q4 : sp (V.ref a :: (vs ++ [])) H2 Q (E σ) := q2; rw [List.append_nil] at q4; exact q4
  exact run_fnS (us := .ref a :: us) (vs := .ref a :: vs) F hr hb (hx σ) I2 (.cons rfl r) q3
theorem pe_meth0S {pl : Sem Bool} (he : PE X o ta) (c : Cls X.K C) (hm : Meth X.K C m f) (F : FnOk X.prog X.w X.K X.mg X.base CX k f fd ps sp) (hr : Room k X.A) (hb : Binds X.K fd ps []) (hx : ∀ σ, PassesAt CX X σ (E σ))
    (ht : eval (.Call (.Attribute o m apos) [] [] pos) X.env = (do
      let ov ← eval o X.env
      standAt apos.atName
      let (f, first) ← holding [ov] (getMethod ov m pl)
      callWith pos f first (backTo pos (starEach [] X.env)) (backToKw pos (keywordEach [] X.env))) := by rfl) :
    PE X (.Call (.Attribute o m apos) [] [] pos) (tMethS C m sp E ta tNil) := by
  refine ⟨fun pins s σ H Q I h => ?_⟩
  refine PySem.W.methodCall_KW (pl := pl) (thn (he.run pins s σ H _ I h) fun u s1 ⟨x, H1, I1, rx, a, dx, fs, ex, ea, l, q⟩ => ?_) ht
  subst ex
  obtain rfl : u = Value.ref a := rx
  refine getmeth_ok I1 ea c hm l ?_
  exact PySem.W.callWith_K0 (first := [.ref a]) I1.kIn hm.kp (run_fnS (us := [.ref a]) (vs := [.ref a]) F hr hb (hx σ) I1 (.cons rfl .nil) q)
def tMakeS (C : Addr) (sp : Sp) (dvs : List V) (E : St → XK) (t : TA) : TE := fun σ H Q => t σ H fun vs H1 => rMake C sp (E σ) dvs Q vs H1
variable {dvs : List V} {ds : List Value}
theorem run_makeS {pins : List (Addr × Obj)} {σ : St} {H : Hp} {s : Shared} {Q : VK} {us : List Value} {vs : List V} (M : Mk X.K C f) (F : FnOk X.prog X.w X.K X.mg X.base CX k f fd ps sp) (hr : Room (k + 1) X.A) (hb : Binds X.K fd ps ds) (hd : Vals dvs ds)
    (hx : PassesAt CX X σ (E σ)) (I : Inv X pins σ H s) (r : Vals vs us) (h : rMake C sp (E σ) dvs Q vs H) :
    wpAny (model X.prog X.w) X.A (call (.ref C) us) (EP X pins σ Q) X.xe s := by
  have hq := h (s.heap.objs.size + 1) s.heap.objs.size (I.hok.fresh (Nat.le_succ _)) (I.hok.fresh (Nat.le_refl _)) (Nat.ne_of_lt (Nat.lt_succ_self _))
  have I2 := Inv.made (C := C) I
  have r2 : Vals (V.ref (s.heap.objs.size + 1) :: (vs ++ dvs)) (Value.ref (s.heap.objs.size + 1) :: (us ++ ds)) := .cons rfl (r.append hd)
  have hl : (Value.ref (s.heap.objs.size + 1) :: us ++ ds).length = ps.length := by
    have e := r2.length
    rw [F.len _ _ _ _ hq] at e
    exact e.symm
  refine wpAny_call (make_map (f := f) I.kIn M.makes M.init (beq_iff_eq.mp M.fn) (codeAny_mono (F.run _ X.stack _ _ ⟨Value.ref (s.heap.objs.size + 1) :: us, []⟩ (Value.ref (s.heap.objs.size + 1) :: (us ++ ds)) _ _ (E σ) (hr.make C us [])
    (I2.env0.make C us []) (hb _ (Value.ref (s.heap.objs.size + 1) :: us) I2.kIn hl) r2 hq) fun r s' hq' => ?_))
  cases r with
  | error e => exact hx pins _ _ e s' I2 hq'
  | ok fl =>
    cases fl with
    | ret u =>
      obtain ⟨v, H', I3, rv, ev, q3⟩ := I2.after hq'
      subst ev
      exact ⟨rv, ⟨V.ref (s.heap.objs.size + 1), H', I3, rfl, q3⟩⟩
    | next => exact False.elim hq'
    | brk => exact False.elim hq'
    | cont => exact False.elim hq'
theorem pe_makeS (M : Mk X.K C f) (F : FnOk X.prog X.w X.K X.mg X.base CX k f fd ps sp) (hr : Room (k + 1) X.A) (hg : Gl X x) (hm : X.mg x = some (.ref C)) (hb : Binds X.K fd ps ds) (hd : Vals dvs ds) (hx : ∀ σ, PassesAt CX X σ (E σ))
    (ha : PA X (e :: es) t) (hdb : (x == ("__debug__" : Str)) = false := by decide) (he : starEach (e :: es) X.env = (false, eval e X.env) :: starEach es X.env := by rfl) (hpl : (backTo pos (starEach es X.env)).any (·.1) = false := by rfl) :
    PE X (.Call (.Name x p) (e :: es) [] pos) (tMakeS C sp dvs E t) := by
  refine ⟨fun pins s σ H Q I h => ?_⟩
  refine wpAny_Call_Name_kw (ld_glob I hg hm ?_ hdb)
  refine PySem.W.callWith_K (h₀ := X.base) I.ok.mod.kin M.kp (thn (ha.run pos pins s σ H _ I h) fun us s1 ⟨vs, H1, I1, r, q⟩ => ⟨I1.kIn, ?_⟩) he hpl
  exact run_makeS M F hr hb hd (hx σ) I1 r q
end
section
variable {K : PySem.W.Frag} {σ : St} {H : Hp} {Q : VK} {C : Addr} {m : Str} {sp : Sp} {E : St → XK} {ta : TE} {t : TA} {dvs : List V}
theorem z_callS (h : t σ H fun vs H1 => sp vs H1 Q (E σ)) : tCallS sp E t σ H Q := h
theorem z_methS (h : ta σ H fun x H1 => rMeth C m (fun x H1 => t σ H1 fun vs H2 => sp (x :: (vs ++ [])) H2 Q (E σ)) x H1) : tMethS C m sp E ta t σ H Q := h
theorem z_makeS (h : t σ H fun vs H1 => rMake C sp (E σ) dvs Q vs H1) : tMakeS C sp dvs E t σ H Q := h
end
/-- a raise of an own class: the way out -/
def tRaiseZ (C : Addr) (W : WX) : TS := fun _ σ H => W (.ref C) none σ H
theorem ps_raiseZ {X : Cx} {W : WX} {C : Addr} {bmB : List Value} {B newId initId : String} {x m : Str} {j : Nat} {p p2 pos pos' : Pos} (hc : X.calm = true) (tk : Takes X W) (F : ExcBaseFacts B newId initId bmB) (q : PySem.W.excIn X.K C bmB newId = true) (gC : X.mg x = some (.ref C)) (kC : PySem.W.keepIn X.K (.ref C) = true) (r : Raises X (.ref C)) (hg : Gl X x)
    (hdb : (x == ("__debug__" : Str)) = false := by decide) : PS X (.Raise (some (.Call (.Name x p) [.Constant (.str m) j p2] [] pos)) none pos') (tRaiseZ C W) := ps_raise hc tk (pmk_own F q gC kC r hg hdb)
theorem z_raise {C : Addr} {W : WX} {D : Ends} {σ : St} {H : Hp} (h : W (.ref C) none σ H) : tRaiseZ C W D σ H := h
/-- try: .. except x: .. -/
def tTryZ (K : PySem.W.Frag) (c : Value) (tb : WX → TS) (ts : Addr → Value → Option Addr → TS) (Wout : WX) : TS := fun D σ H => tb (wOnly K c ts Wout D) D σ H
theorem ps_tryZ {X : Cx} {K : PySem.W.Frag} {x : Str} {c : Value} {body suite : List Stmt} {b₀ : Stmt} {np pos pos' : Pos} {tb : WX → TS} {ts : Addr → Value → Option Addr → TS} {Wout : WX} (hK : X.K = K) (hs : X.stack = X.env :: X.outer) (hf : X.env.frame = some X.env.locals) (hc : Names X x c) (tk : Takes X Wout)
    (hb : ∀ (W : WX) (pn : List (Addr × Obj)) (xe : Value → Shared → Prop), Takes (X.tr pn xe) W → PassesOwn (model X.prog X.w) X.A X.env xe → PSs (X.tr pn xe) body (tb W))
    (hsu : ∀ (a : Addr) (oe : Obj) (cls : Value) (d : Option Addr) (pn : List (Addr × Obj)), Zc cls d oe → (∃ vs, oe.data = .fields vs) → PSs (X.suite a ((a, oe) :: pn)) (b₀ :: suite) (ts a cls d)) :
    PS X (.Try body [.ExceptHandler (some (.Name x np)) none (b₀ :: suite) pos'] [] [] pos) (tTryZ K c tb ts Wout) := by
  subst hK
  exact ps_try_only hs hf hc tk hb hsu
theorem z_try {K : PySem.W.Frag} {c : Value} {tb : WX → TS} {ts : Addr → Value → Option Addr → TS} {Wout : WX} {D : Ends} {σ : St} {H : Hp} (h : tb (wOnly K c ts Wout D) D σ H) : tTryZ K c tb ts Wout D σ H := h
theorem z_only {K : PySem.W.Frag} {cls c : Value} {ts : Addr → Value → Option Addr → TS} {Wout : WX} {D : Ends} {d : Option Addr} {σ : St} {H : Hp} (he : PySem.W.exmOne K cls c = some true) (h : ∀ a, H a = none → ts a cls d D σ H) : wOnly K c ts Wout D cls d σ H :=
  ⟨true, he, fun _ => h, fun z => Bool.noConfusion z⟩
/-- which class an except clause takes -/
theorem exm_of {K : PySem.W.Frag} {R S : Addr} {b : Bool} (h2 : PySem.W.isClsIn K S = true) (h3 : PySem.W.typeIn K (.ref S) = some (.type "type")) (hb : PySem.W.subIn K (.ref S) (.type "BaseException") = some true) (h4 : PySem.W.subIn K (.ref R) (.ref S) = some b) :
    PySem.W.exmOne K (.ref R) (.ref S) = some b := by
  have e1 : (PySem.W.subIn K (.ref S) (.type "BaseException") == some true) = true := by rw [hb] <;> rfl
  have e2 : ((PySem.W.clsIn K S).isSome && PySem.W.typeIn K (.ref S) == some (.type "type")) = true := by
    have h2' : (PySem.W.clsIn K S).isSome = true := h2
    rw [h2', h3] <;> rfl
  show (if (PySem.W.subIn K (.ref S) (.type "BaseException") == some true) = true then (if ((PySem.W.clsIn K S).isSome && PySem.W.typeIn K (.ref S) == some (.type "type")) = true then PySem.W.subIn K (.ref R) (.ref S) else none) else none) = some b
  rw [if_pos e1, if_pos e2]
  exact h4
/-! ## while -/
theorem p_while {c : TT} {tb : TS} {nx bk ct : St → Hp → Prop} {rt : VK} {σ : St} {H : Hp} (W : Nat → St → Hp → Prop) (h0 : ∃ m, W m σ H)
    (hs : ∀ m σ H, W m σ H → c σ H fun b H1 => if b = true then ∃ N : St → Hp → Prop, (∀ σ' H', N σ' H' → ∃ m', m' < m ∧ W m' σ' H') ∧ tb ⟨N, rt, nx, N⟩ σ H1 else nx σ H1) : tWhile c tb ⟨nx, rt, bk, ct⟩ σ H := ⟨W, h0, hs⟩
/-! ## comprehensions by an invariant -/
theorem c_listG {K : PySem.W.Frag} {σ : St} {H : Hp} {Q : VK} {te : TE} {g : TG} {ws : List Nat} {a : Addr} {xs : List V} (Pv : Addr → Nat → Hp → Prop) (h0 : ∀ D, H D = none → Pv D 0 (upd H D (.lst [])))
    (hl : ∀ D i H', i ≤ xs.length → Pv D i H' → SqL K H' a xs)
    (hs : ∀ D i x H', H D = none → xs[i]? = some x → Pv D i H' → g x (wipe σ ws) H' fun σ2 H2 => wipe σ2 ws = wipe σ ws ∧ te σ2 H2 fun y H4 => ∃ acc, H4 D = some (.lst acc) ∧ acc.length < sizeLine ∧ Pv D (i + 1) (upd H4 D (.lst (acc ++ [y]))))
    (hd : ∀ D H', H D = none → Pv D xs.length H' → Q (.ref D) H')
    (hm : ∀ v σ1 H1 (R R' : St → Hp → Prop), (∀ σ2 H2, R σ2 H2 → R' σ2 H2) → g v σ1 H1 R → g v σ1 H1 R') : LcZ (Itl K a) g tYes te ws σ H Q := fun D hD =>
  lc_list (K := K) (a := a) (xs := xs) (g := g) (tt := tYes) (te := te) (vs := ws) (σ := σ) (Pv D) (h0 D hD) (hl D) (fun i x H' hi p => hm _ _ _ _ _ (fun σ2 H2 ⟨e, q⟩ => ⟨e, by unfold tYes; exact iteT q⟩) (hs D i x H' hD hi p)) fun H' p => hd D H' hD p
theorem gName_mono {j : Nat} : ∀ v σ1 H1 (R R' : St → Hp → Prop), (∀ σ2 H2, R σ2 H2 → R' σ2 H2) → gName j v σ1 H1 R → gName j v σ1 H1 R' := fun _ _ _ _ _ k h => k _ _ h
theorem gTup2_mono {K : PySem.W.Frag} {i j : Nat} : ∀ v σ1 H1 (R R' : St → Hp → Prop), (∀ σ2 H2, R σ2 H2 → R' σ2 H2) → gTup K 2 (gCons (gName i) (gCons (gName j) gNil)) v σ1 H1 R → gTup K 2 (gCons (gName i) (gCons (gName j) gNil)) v σ1 H1 R' := fun _ _ _ _ _ k h => by
  obtain ⟨a, xs, e, s, l, v, r, e1, v2, r2, e2, e3, q⟩ := h
  exact ⟨a, xs, e, s, l, v, r, e1, v2, r2, e2, e3, k _ _ q⟩
end Z

/-! # Values without a heap: what a def computes, as a plain function over data -/
namespace Y
open PySem L2 Z
/-- data -/
inductive D where
  | non | bl (b : Bool) | int (i : Int) | str (x : Str)
  | tup (l : List D) | ctp (l : List D) | lst (l : List D) | clst (l : List D)
  | dK (l : List (Key × D)) | dT (l : List (List Key × D))
  | cid (k : Nat) | ty (n : String)
/-- the classes' places; in a suite: the exception's place, class and dict -/
structure Ct where
  c : Nat → Addr
  xa : Option (Addr × Addr × Option Addr)
  lk : Option Addr
instance : CoeFun Ct (fun _ => Nat → Addr) := ⟨Ct.c⟩
/-- what may be changed -/
inductive Cn where
  | lst (l : List D) | dK (l : List (Key × D)) | dT (l : List (List Key × D)) | obj (c : Nat) (fs : List (Str × D))
structure Exn where
  cls : Nat
  fs : List (Str × D)
inductive Ent where
  | fz (d : D) | ow (c : Cn) | xn (x : Exn)
structure Stt where
  env : List (Option Ent)
  M : List Cn
inductive AI where
  | val (d : D) | slot (i : Nat) | new (c : Cn)
inductive Ro (α : Type) where
  | ok (a : α) (s : Stt) | er (x : Exn) (s : Stt) | no
abbrev Mo (α : Type) := Stt → Ro α
def Ro.bind {α β : Type} (r : Ro α) (f : α → Mo β) : Ro β :=
  match r with
  | .ok a s => f a s
  | .er x s => .er x s
  | .no => .no
inductive Rs where
  | nx (s : Stt) | rt (a : AI) (s : Stt) | bk (s : Stt) | ct (s : Stt) | er (x : Exn) (s : Stt) | no
abbrev Ms := Stt → Rs
/-- a def: what it hands back (a value, or a thing made anew), the objects behind it -/
inductive Fr where
  | ok (a : AI) (M : List Cn) | er (x : Exn) (M : List Cn) | no
abbrev Mf := List D → List Cn → Fr
def Cn.toD : Cn → D
  | .lst l => .lst l
  | .dK l => .dK l
  | .dT l => .dT l
  | .obj _ _ => .non
def Cn.isC : Cn → Bool
  | .obj _ _ => false
  | _ => true
/-! ## what stands for data -/
mutual
inductive Rp (K : PySem.W.Frag) (G : Hp) (α : Nat → Addr) (n : Nat) : V → D → Prop
  | non : Rp K G α n .non .non
  | bl (b : Bool) : Rp K G α n (.bl b) (.bl b)
  | int (i : Int) : Rp K G α n (.int i) (.int i)
  | str (x : Str) : Rp K G α n (.str x) (.str x)
  | tup {a : Addr} {vs : List V} {l : List D} : G a = some (.tup vs) → RpL K G α n vs l → Rp K G α n (.ref a) (.tup l)
  | ctp {a : Addr} {vs : List V} {l : List D} : SqT K G a vs → RpL K G α n vs l → Rp K G α n (.ref a) (.ctp l)
  | lst {a : Addr} {vs : List V} {l : List D} : G a = some (.lst vs) → RpL K G α n vs l → Rp K G α n (.ref a) (.lst l)
  | clst {a : Addr} {vs : List V} {l : List D} : SqL K G a vs → RpL K G α n vs l → Rp K G α n (.ref a) (.clst l)
  | dK {a : Addr} {kvs : List (Key × V)} {l : List (Key × D)} : G a = some (.dK kvs) → kvs.map Prod.fst = l.map Prod.fst → RpL K G α n (kvs.map Prod.snd) (l.map Prod.snd) → Rp K G α n (.ref a) (.dK l)
  | dT {a : Addr} {kvs : List (List Key × V)} {l : List (List Key × D)} : G a = some (.dT kvs) → kvs.map Prod.fst = l.map Prod.fst → RpL K G α n (kvs.map Prod.snd) (l.map Prod.snd) → Rp K G α n (.ref a) (.dT l)
  | cid {k : Nat} : k < n → Rp K G α n (.ref (α k)) (.cid k)
  | ty (m : String) : Rp K G α n (.ty m) (.ty m)
inductive RpL (K : PySem.W.Frag) (G : Hp) (α : Nat → Addr) (n : Nat) : List V → List D → Prop
  | nil : RpL K G α n [] []
  | cons {v : V} {vs : List V} {d : D} {l : List D} : Rp K G α n v d → RpL K G α n vs l → RpL K G α n (v :: vs) (d :: l)
end
theorem rd_mono {G G' : Hp} {a : Addr} {u : HO} (s : Same G G') (h : Rd G a u) : Rd G' a u := by
  rcases h with h | ⟨o, h⟩
  · exact .inl (s _ _ h)
  · exact .inr ⟨o, s _ _ h⟩
theorem st_mono {K : PySem.W.Frag} {G G' : Hp} {a : Addr} {xs : List V} (s : Same G G') (h : SqT K G a xs) : SqT K G' a xs := by
  rcases h with h | h
  · exact .inl (rd_mono s h)
  · exact .inr h
section
variable {K : PySem.W.Frag} {G G' : Hp} {α α' : Nat → Addr} {n n' : Nat}
mutual
theorem Rp.mono (s : Same G G') (ha : ∀ k, k < n → α' k = α k) (hn : n ≤ n') : ∀ {v : V} {d : D}, Rp K G α n v d → Rp K G' α' n' v d
  | _, _, .non => .non
  | _, _, .bl b => .bl b
  | _, _, .int i => .int i
  | _, _, .str x => .str x
  | _, _, .ty x => .ty x
  | _, _, .tup h r => .tup (s _ _ h) (RpL.mono s ha hn r)
  | _, _, .ctp h r => .ctp (st_mono s h) (RpL.mono s ha hn r)
  | _, _, .lst h r => .lst (s _ _ h) (RpL.mono s ha hn r)
  | _, _, .clst h r => .clst (s.seq h) (RpL.mono s ha hn r)
  | _, _, .dK h e r => .dK (s _ _ h) e (RpL.mono s ha hn r)
  | _, _, .dT h e r => .dT (s _ _ h) e (RpL.mono s ha hn r)
  | _, _, .cid (k := k) h => by
    have e := ha k h
    rw [← e]
    exact .cid (Nat.lt_of_lt_of_le h hn)
theorem RpL.mono (s : Same G G') (ha : ∀ k, k < n → α' k = α k) (hn : n ≤ n') : ∀ {vs : List V} {l : List D}, RpL K G α n vs l → RpL K G' α' n' vs l
  | _, _, .nil => .nil
  | _, _, .cons h r => .cons (Rp.mono s ha hn h) (RpL.mono s ha hn r)
end
theorem RpL.length : ∀ {vs : List V} {l : List D}, RpL K G α n vs l → vs.length = l.length
  | _, _, .nil => rfl
  | _, _, .cons _ r => by rw [List.length_cons, List.length_cons, RpL.length r]
theorem RpL.append : ∀ {vs us : List V} {l m : List D}, RpL K G α n vs l → RpL K G α n us m → RpL K G α n (vs ++ us) (l ++ m)
  | _, _, _, _, .nil, h => h
  | _, _, _, _, .cons a r, h => .cons a (r.append h)
theorem RpL.get : ∀ {vs : List V} {l : List D} {i : Nat} {d : D}, RpL K G α n vs l → l[i]? = some d → ∃ v, vs[i]? = some v ∧ Rp K G α n v d
  | _, _, _, _, .nil, e => by simp at e
  | _, _, 0, _, .cons a _, e => ⟨_, rfl, by simp at e; subst e; exact a⟩
  | _, _, i + 1, d, .cons _ r, e => by
    obtain ⟨v, h1, h2⟩ := RpL.get (i := i) (d := d) r (by simpa using e)
    exact ⟨v, by simpa using h1, h2⟩
theorem RpL.get' : ∀ {vs : List V} {l : List D} {i : Nat} {v : V}, RpL K G α n vs l → vs[i]? = some v → ∃ d, l[i]? = some d ∧ Rp K G α n v d
  | _, _, _, _, .nil, e => by simp at e
  | _, _, 0, _, .cons a _, e => ⟨_, rfl, by simp at e; subst e; exact a⟩
  | _, _, i + 1, v, .cons _ r, e => by
    obtain ⟨d, h1, h2⟩ := RpL.get' (i := i) (v := v) r (by simpa using e)
    exact ⟨d, by simpa using h1, h2⟩
theorem RpL.set {v : V} {d : D} (h : Rp K G α n v d) : ∀ {vs : List V} {l : List D} (i : Nat), RpL K G α n vs l → RpL K G α n (vs.set i v) (l.set i d)
  | _, _, _, .nil => .nil
  | _, _, 0, .cons _ r => .cons h r
  | _, _, i + 1, .cons a r => .cons a (RpL.set h i r)
theorem RpL.take : ∀ {vs : List V} {l : List D} (i : Nat), RpL K G α n vs l → RpL K G α n (vs.take i) (l.take i)
  | _, _, 0, _ => .nil
  | _, _, _ + 1, .nil => .nil
  | _, _, i + 1, .cons a r => .cons a (r.take i)
theorem RpL.drop : ∀ {vs : List V} {l : List D} (i : Nat), RpL K G α n vs l → RpL K G α n (vs.drop i) (l.drop i)
  | _, _, 0, h => h
  | _, _, _ + 1, .nil => .nil
  | _, _, i + 1, .cons _ r => r.drop i
theorem RpL.rev : ∀ {vs : List V} {l : List D}, RpL K G α n vs l → RpL K G α n vs.reverse l.reverse
  | _, _, .nil => .nil
  | _, _, .cons a r => by rw [List.reverse_cons, List.reverse_cons]; exact r.rev.append (.cons a .nil)
end
/-! ## what is locked is seen as it is -/
def strip : Option HO → Option HO
  | some (.frz _ (.dK k)) => some (.dK k)
  | some (.frz _ (.dT k)) => some (.dT k)
  | x => x
/-- b: the dict that is locked, if any -/
def U (b : Option Addr) (H : Hp) : Hp := fun a => if b = some a then strip (H a) else H a
section
variable {K : PySem.W.Frag} {b : Option Addr} {H : Hp} {a p : Addr} {o : HO} {vs : List V}
theorem U0 : U none H = H := by funext a; unfold U; rw [if_neg (by simp)]
theorem U_same {H' : Hp} (h : H' a = H a) : U b H' a = U b H a := by unfold U; rw [h]
theorem U_none (h : H a = none) : U b H a = none := by unfold U; rw [h]; split <;> rfl
theorem U_ne (h : a ≠ p) : U b (upd H p o) a = U b H a := U_same (upd_ne h)
theorem uL (h : H a = some (.lst vs)) : U b H a = some (.lst vs) := by unfold U; rw [h]; split <;> rfl
theorem uP (h : H a = some (.tup vs)) : U b H a = some (.tup vs) := by unfold U; rw [h]; split <;> rfl
theorem uK {k : List (Key × V)} (h : H a = some (.dK k)) : U b H a = some (.dK k) := by unfold U; rw [h]; split <;> rfl
theorem uT {k : List (List Key × V)} (h : H a = some (.dT k)) : U b H a = some (.dT k) := by unfold U; rw [h]; split <;> rfl
theorem uX {k : List (Str × V)} (h : H a = some (.xd k)) : U b H a = some (.xd k) := by unfold U; rw [h]; split <;> rfl
theorem U_cases (b : Option Addr) (H : Hp) (a : Addr) : U b H a = H a ∨ (∃ o k, H a = some (.frz o (.dK k)) ∧ U b H a = some (.dK k)) ∨ ∃ o k, H a = some (.frz o (.dT k)) ∧ U b H a = some (.dT k) := by
  unfold U
  split
  · unfold strip
    split
    · rename_i o k h; exact .inr (.inl ⟨o, k, h, rfl⟩)
    · rename_i o k h; exact .inr (.inr ⟨o, k, h, rfl⟩)
    · exact .inl rfl
  · exact .inl rfl
theorem uL' (h : U b H a = some (.lst vs)) : H a = some (.lst vs) := by
  rcases U_cases b H a with e | ⟨o, k, _, e⟩ | ⟨o, k, _, e⟩
  · rw [e] at h; exact h
  · rw [e] at h; cases h
  · rw [e] at h; cases h
theorem uP' (h : U b H a = some (.tup vs)) : H a = some (.tup vs) := by
  rcases U_cases b H a with e | ⟨o, k, _, e⟩ | ⟨o, k, _, e⟩
  · rw [e] at h; exact h
  · rw [e] at h; cases h
  · rw [e] at h; cases h
theorem uX' {k : List (Str × V)} (h : U b H a = some (.xd k)) : H a = some (.xd k) := by
  rcases U_cases b H a with e | ⟨o, k, _, e⟩ | ⟨o, k, _, e⟩
  · rw [e] at h; exact h
  · rw [e] at h; cases h
  · rw [e] at h; cases h
theorem uF' {o : Obj} {u : HO} (h : U b H a = some (.frz o u)) : H a = some (.frz o u) := by
  rcases U_cases b H a with e | ⟨o, k, _, e⟩ | ⟨o, k, _, e⟩
  · rw [e] at h; exact h
  · rw [e] at h; cases h
  · rw [e] at h; cases h
theorem uK' {k : List (Key × V)} (h : U b H a = some (.dK k)) : Rd H a (.dK k) := by
  rcases U_cases b H a with e | ⟨o, k', q, e⟩ | ⟨o, k', q, e⟩
  · rw [e] at h; exact .inl h
  · rw [e] at h; cases h; exact .inr ⟨o, q⟩
  · rw [e] at h; cases h
theorem uT' {k : List (List Key × V)} (h : U b H a = some (.dT k)) : Rd H a (.dT k) := by
  rcases U_cases b H a with e | ⟨o, k', q, e⟩ | ⟨o, k', q, e⟩
  · rw [e] at h; exact .inl h
  · rw [e] at h; cases h
  · rw [e] at h; cases h; exact .inr ⟨o, q⟩
theorem U_grow {H' : Hp} {u : HO} (k : ∀ o, H a = some o → H' a = some o) (h : U b H a = some u) : U b H' a = some u := by
  cases q : H a with
  | none => rw [U_none q] at h; cases h
  | some o =>
    have e : U b H' a = U b H a := U_same (by rw [k o q, q])
    rw [e]; exact h
theorem uSqL (h : SqL K (U b H) a vs) : SqL K H a vs := by
  rcases h with (h | ⟨o, h⟩) | h
  · exact .inl (.inl (uL' h))
  · exact .inl (.inr ⟨o, uF' h⟩)
  · exact .inr h
theorem uSqT (h : SqT K (U b H) a vs) : SqT K H a vs := by
  rcases h with (h | ⟨o, h⟩) | h
  · exact .inl (.inl (uP' h))
  · exact .inl (.inr ⟨o, uF' h⟩)
  · exact .inr h
end
/-! ## the state -/
inductive Lab where
  | id (k : Nat) | slot (i : Nat)
  deriving DecidableEq
structure Sh where
  G : Hp
  α : Nat → Addr
  lab : Addr → Option Lab
def CnOk (K : PySem.W.Frag) (ct : Ct) (S : Sh) (n : Nat) (H : Hp) (p : Addr) : Cn → Prop
  | .lst l => ∃ vs, H p = some (.lst vs) ∧ RpL K S.G S.α n vs l
  | .dK l => ∃ kvs, H p = some (.dK kvs) ∧ kvs.map Prod.fst = l.map Prod.fst ∧ RpL K S.G S.α n (kvs.map Prod.snd) (l.map Prod.snd)
  | .dT l => ∃ kvs, H p = some (.dT kvs) ∧ kvs.map Prod.fst = l.map Prod.fst ∧ RpL K S.G S.α n (kvs.map Prod.snd) (l.map Prod.snd)
  | .obj c fs => ∃ dx fvs, H p = some (.ins (ct c) dx fvs) ∧ fvs.map Prod.fst = fs.map Prod.fst ∧ RpL K S.G S.α n (fvs.map Prod.snd) (fs.map Prod.snd)
def XOk (K : PySem.W.Frag) (S : Sh) (n : Nat) (H : Hp) (x : Exn) (dd : Option Addr) : Prop :=
  (x.fs = [] ∧ dd = none) ∨ ∃ d fvs, dd = some d ∧ S.G d = some (.xd fvs) ∧ fvs.map Prod.fst = x.fs.map Prod.fst ∧ RpL K S.G S.α n (fvs.map Prod.snd) (x.fs.map Prod.snd)
theorem XOk.mono {K : PySem.W.Frag} {S S' : Sh} {n n' : Nat} {H H' : Hp} {x : Exn} {dd : Option Addr} (g : Same S.G S'.G) (al : ∀ k, k < n → S'.α k = S.α k) (hn : n ≤ n') (h : XOk K S n H x dd) : XOk K S' n' H' x dd := by
  rcases h with h | ⟨d, fvs, e, h1, h2, h3⟩
  · exact .inl h
  · exact .inr ⟨d, fvs, e, g _ _ h1, h2, h3.mono g al hn⟩
def EntOk (K : PySem.W.Frag) (ct : Ct) (H0 : Hp) (S : Sh) (n : Nat) (σ : St) (H : Hp) (i : Nat) : Ent → Prop
  | .fz d => ∃ v, σ[i]? = some (some v) ∧ Rp K S.G S.α n v d
  | .ow c => ∃ p, σ[i]? = some (some (.ref p)) ∧ H0 p = none ∧ S.lab p = some (.slot i) ∧ c.isC = true ∧ CnOk K ct S n H p c
  | .xn x => ∃ a d, ct.xa = some (a, ct x.cls, d) ∧ σ[i]? = some (some (.ref a)) ∧ XOk K S n H x d
theorem xn_mono {K : PySem.W.Frag} {ct : Ct} {H0 : Hp} {S S' : Sh} {n n' : Nat} {σ σ' : St} {H H' : Hp} {i : Nat} {x : Exn} (g : Same S.G S'.G) (al : ∀ k, k < n → S'.α k = S.α k) (hn : n ≤ n') (hs : σ'[i]? = σ[i]?) (h : EntOk K ct H0 S n σ H i (.xn x)) : EntOk K ct H0 S' n' σ' H' i (.xn x) := by
  obtain ⟨a, d, h1, h2, h3⟩ := h
  exact ⟨a, d, h1, hs.trans h2, h3.mono g al hn⟩
structure Rel (K : PySem.W.Frag) (ct : Ct) (H0 : Hp) (S : Sh) (s : Stt) (σ : St) (H : Hp) : Prop where
  sub : Same S.G (U ct.lk H)
  lg : ∀ a l, S.lab a = some l → S.G a = none ∧ ∃ o, H a = some o
  dom : ∀ a, H a = none → H0 a = none
  len : σ.length = s.env.length
  slot : ∀ i e, s.env[i]? = some (some e) → EntOk K ct H0 S s.M.length σ H i e
  ids : ∀ k c, s.M[k]? = some c → S.lab (S.α k) = some (.id k) ∧ CnOk K ct S s.M.length H (S.α k) c
structure Stp (S : Sh) (n : Nat) (H : Hp) (S' : Sh) (n' : Nat) (H' : Hp) : Prop where
  g : Same S.G S'.G
  le : n ≤ n'
  al : ∀ k, k < n → S'.α k = S.α k
  fr : ∀ a o, H a = some o → S.lab a = none → H' a = some o ∧ S'.lab a = none
  gn : ∀ a o, S'.G a = some o → S.G a = some o ∨ H a = none ∨ ∃ l, S.lab a = some l
  dom : ∀ a, H' a = none → H a = none
section
variable {S S' S'' : Sh} {n n' n'' : Nat} {H H' H'' : Hp}
theorem Stp.refl : Stp S n H S n H := ⟨fun _ _ e => e, Nat.le_refl _, fun _ _ => rfl, fun _ _ h l => ⟨h, l⟩, fun _ _ h => .inl h, fun _ h => h⟩
theorem Stp.trans (a : Stp S n H S' n' H') (b : Stp S' n' H' S'' n'' H'') : Stp S n H S'' n'' H'' where
  g := fun x o e => b.g x o (a.g x o e)
  le := Nat.le_trans a.le b.le
  al := fun k hk => (b.al k (Nat.lt_of_lt_of_le hk a.le)).trans (a.al k hk)
  fr := fun x o h l => by
    obtain ⟨h1, l1⟩ := a.fr x o h l
    exact b.fr x o h1 l1
  gn := fun x o e => by
    rcases b.gn x o e with h | h | ⟨l, h⟩
    · exact a.gn x o h
    · exact .inr (.inl (a.dom x h))
    · cases q : H x with
      | none => exact .inr (.inl rfl)
      | some u =>
        cases ql : S.lab x with
        | none =>
          have := (a.fr x u q ql).2
          rw [this] at h; cases h
        | some l' => exact .inr (.inr ⟨l', rfl⟩)
  dom := fun x h => a.dom x (b.dom x h)
theorem Rp.step {K : PySem.W.Frag} {v : V} {d : D} (t : Stp S n H S' n' H') (h : Rp K S.G S.α n v d) : Rp K S'.G S'.α n' v d := h.mono t.g t.al t.le
theorem RpL.step {K : PySem.W.Frag} {v : List V} {d : List D} (t : Stp S n H S' n' H') (h : RpL K S.G S.α n v d) : RpL K S'.G S'.α n' v d := h.mono t.g t.al t.le
end
theorem CnOk.mono {K : PySem.W.Frag} {ct : Ct} {S S' : Sh} {n n' : Nat} {H H' : Hp} {p : Addr} {c : Cn} (g : Same S.G S'.G) (al : ∀ k, k < n → S'.α k = S.α k) (hn : n ≤ n') (e : ∀ o, H p = some o → H' p = some o) (h : CnOk K ct S n H p c) : CnOk K ct S' n' H' p c := by
  cases c with
  | lst l => obtain ⟨vs, h1, h2⟩ := h; exact ⟨vs, e _ h1, h2.mono g al hn⟩
  | dK l => obtain ⟨vs, h1, h3, h2⟩ := h; exact ⟨vs, e _ h1, h3, h2.mono g al hn⟩
  | dT l => obtain ⟨vs, h1, h3, h2⟩ := h; exact ⟨vs, e _ h1, h3, h2.mono g al hn⟩
  | obj c fs => obtain ⟨dx, vs, h1, h3, h2⟩ := h; exact ⟨dx, vs, e _ h1, h3, h2.mono g al hn⟩
theorem CnOk.some {K : PySem.W.Frag} {ct : Ct} {S : Sh} {n : Nat} {H : Hp} {p : Addr} {c : Cn} (h : CnOk K ct S n H p c) : ∃ o, H p = some o := by
  cases c with
  | lst l => obtain ⟨vs, h1, _⟩ := h; exact ⟨_, h1⟩
  | dK l => obtain ⟨vs, h1, _⟩ := h; exact ⟨_, h1⟩
  | dT l => obtain ⟨vs, h1, _⟩ := h; exact ⟨_, h1⟩
  | obj c fs => obtain ⟨_, vs, h1, _⟩ := h; exact ⟨_, h1⟩
section
variable {K : PySem.W.Frag} {ct : Ct} {H0 : Hp} {S S' : Sh} {s s' : Stt} {σ : St} {H H' : Hp} {p : Addr} {o : HO}
theorem Rel.labN (r : Rel K ct H0 S s σ H) {a : Addr} (h : H a = none) : S.lab a = none := by
  cases q : S.lab a with
  | none => rfl
  | some l => obtain ⟨_, o, e⟩ := r.lg a l q; rw [e] at h; cases h
theorem Rel.gN (r : Rel K ct H0 S s σ H) {a : Addr} (h : H a = none) : S.G a = none := by
  cases q : S.G a with
  | none => rfl
  | some l => have := r.sub a l q; rw [U_none h] at this; cases this
/-- a new thing that nobody has yet -/
theorem Rel.new (r : Rel K ct H0 S s σ H) (hp : H p = none) : Rel K ct H0 S s σ (upd H p o) := by
  have ne : ∀ {a : Addr} {u : HO}, H a = some u → upd H p o a = some u := fun {a u} e => by rw [upd_ne (ne_of_none e hp)]; exact e
  have cn : ∀ {a : Addr} {c : Cn}, CnOk K ct S s.M.length H a c → CnOk K ct S s.M.length (upd H p o) a c := fun {a c} h => h.mono (fun _ _ e => e) (fun _ _ => rfl) (Nat.le_refl _) (fun _ e => ne e)
  refine ⟨fun a u e => by rw [U_ne (fun z => by subst z; rw [r.gN hp] at e; cases e)]; exact r.sub a u e, fun a l e => ?_, fun a e => ?_, r.len, fun i e h => ?_, fun k c h => ?_⟩
  · obtain ⟨h1, u, h2⟩ := r.lg a l e
    exact ⟨h1, u, ne h2⟩
  · exact r.dom a (upd_none.mp e).2
  · have q := r.slot i e h
    cases e with
    | fz d => exact q
    | xn x => exact xn_mono (fun _ _ e => e) (fun _ _ => rfl) (Nat.le_refl _) rfl q
    | ow c =>
      obtain ⟨a, h1, h2, h3, h4, h5⟩ := q
      exact ⟨a, h1, h2, h3, h4, cn h5⟩
  · obtain ⟨h1, h2⟩ := r.ids k c h
    exact ⟨h1, cn h2⟩
theorem Stp.new (r : Rel K ct H0 S s σ H) (hp : H p = none) {n : Nat} : Stp S n H S n (upd H p o) where
  g := fun _ _ e => e
  le := Nat.le_refl _
  al := fun _ _ => rfl
  fr := fun a u h l => ⟨by rw [upd_ne (ne_of_none h hp)]; exact h, l⟩
  gn := fun _ _ e => .inl e
  dom := fun a e => (upd_none.mp e).2
def Sh.frz (S : Sh) (p : Addr) (o : HO) : Sh := ⟨upd S.G p o, S.α, S.lab⟩
/-- what nobody has is frozen -/
theorem Rel.frz (r : Rel K ct H0 S s σ H) (hp : U ct.lk H p = some o) (hl : S.lab p = none) (hg : S.G p = none) : Rel K ct H0 (S.frz p o) s σ H := by
  have sg : Same S.G (S.frz p o).G := fun a u e => by show upd S.G p o a = _; rw [upd_ne (ne_of_none e hg)]; exact e
  have cn : ∀ {a : Addr} {c : Cn}, CnOk K ct S s.M.length H a c → CnOk K ct (S.frz p o) s.M.length H a c := fun {a c} h => h.mono sg (fun _ _ => rfl) (Nat.le_refl _) (fun _ e => e)
  refine ⟨fun a u e => ?_, fun a l e => ?_, r.dom, r.len, fun i e h => ?_, fun k c h => ?_⟩
  · have e : upd S.G p o a = some u := e
    by_cases q : a = p
    · subst q; rw [upd_same] at e; cases e; exact hp
    · rw [upd_ne q] at e; exact r.sub a u e
  · have e1 : S.lab a = some l := e
    obtain ⟨h1, h2⟩ := r.lg a l e1
    refine ⟨?_, h2⟩
    show upd S.G p o a = none
    rw [upd_ne (fun z => by subst z; rw [e1] at hl; cases hl)]
    exact h1
  · have q := r.slot i e h
    cases e with
    | fz d => obtain ⟨v, h1, h2⟩ := q; exact ⟨v, h1, h2.mono sg (fun _ _ => rfl) (Nat.le_refl _)⟩
    | xn x => exact xn_mono sg (fun _ _ => rfl) (Nat.le_refl _) rfl q
    | ow c =>
      obtain ⟨a, h1, h2, h3, h4, h5⟩ := q
      exact ⟨a, h1, h2, h3, h4, cn h5⟩
  · obtain ⟨h1, h2⟩ := r.ids k c h
    exact ⟨h1, cn h2⟩
theorem Stp.frz {n : Nat} (hg : S.G p = none) (hs : H p = none ∨ ∃ l, S.lab p = some l) (hd : ∀ a, H' a = none → H a = none) (fr : ∀ a u, H a = some u → S.lab a = none → H' a = some u) : Stp S n H (S.frz p o) n H' where
  g := fun a u e => by show upd S.G p o a = _; rw [upd_ne (ne_of_none e hg)]; exact e
  le := Nat.le_refl _
  al := fun _ _ => rfl
  fr := fun a u h l => ⟨fr a u h l, l⟩
  gn := fun a u e => by
    have e : upd S.G p o a = some u := e
    by_cases q : a = p
    · subst q; exact .inr hs
    · rw [upd_ne q] at e; exact .inl e
  dom := hd
end
end Y

namespace Y
open PySem L2 Z
def ItOk (K : PySem.W.Frag) (ct : Ct) (Hs : Hp) (S : Sh) (s : Stt) (σ : St) (H : Hp) (v : V) : AI → Prop
  | .val d => Rp K S.G S.α s.M.length v d
  | .slot i => σ[i]? = some (some v)
  | .new c => ∃ p, v = .ref p ∧ Hs p = none ∧ S.lab p = none ∧ S.G p = none ∧ c.isC = true ∧ CnOk K ct S s.M.length H p c
/-- how a result is told: the heap ahead, the state behind, the thing, its data -/
abbrev RR (β α : Type) := Hp → Sh → Stt → St → Hp → β → α → Prop
section
variable {K : PySem.W.Frag} {ct : Ct} {H0 : Hp} {W : WX}
def Pst (K : PySem.W.Frag) (ct : Ct) (H0 : Hp) {β α : Type} (R : RR β α) (W : WX) (S : Sh) (s : Stt) (σ : St) (H : Hp) (Q : β → Hp → Prop) : Ro α → Prop
  | .ok a s' => ∀ S' b H', Stp S s.M.length H S' s'.M.length H' → Rel K ct H0 S' s' σ H' → R H S' s' σ H' b a → Q b H'
  | .er x s' => ∀ S' H' dd, Stp S s.M.length H S' s'.M.length H' → Rel K ct H0 S' s' σ H' → XOk K S' s'.M.length H' x dd → W (.ref (ct x.cls)) dd σ H'
  | .no => False
def Jd (K : PySem.W.Frag) (ct : Ct) (H0 : Hp) {β α : Type} (R : RR β α) (W : WX) (t : St → Hp → (β → Hp → Prop) → Prop) (m : Mo α) : Prop :=
  ∀ S s σ H Q, Rel K ct H0 S s σ H → Pst K ct H0 R W S s σ H Q (m s) → t σ H Q
/-- a result that is told by an earlier heap, too -/
def Bck {β α : Type} (R : RR β α) : Prop := ∀ H1 H S s σ H' b a, (∀ x, H1 x = none → H x = none) → R H1 S s σ H' b a → R H S s σ H' b a
def RI (K : PySem.W.Frag) (ct : Ct) : RR V AI := fun H S s σ H' v a => ItOk K ct H S s σ H' v a
def RV (K : PySem.W.Frag) : RR V D := fun _ S s _ _ v d => Rp K S.G S.α s.M.length v d
def RVL (K : PySem.W.Frag) : RR (List V) (List D) := fun _ S s _ _ v d => RpL K S.G S.α s.M.length v d
def RB : RR Bool Bool := fun _ _ _ _ _ b a => b = a
def RO : RR (Option Int) (Option Int) := fun _ _ _ _ _ b a => b = a
theorem bI : Bck (RI K ct) := fun H1 H S s σ H' v a k h => by
  cases a with
  | val d => exact h
  | slot i => exact h
  | new c => obtain ⟨p, e, h1, h2⟩ := h; exact ⟨p, e, k _ h1, h2⟩
theorem bV : Bck (RV K) := fun _ _ _ _ _ _ _ _ _ h => h
theorem bVL : Bck (RVL K) := fun _ _ _ _ _ _ _ _ _ h => h
theorem bB : Bck RB := fun _ _ _ _ _ _ _ _ _ h => h
theorem bO : Bck RO := fun _ _ _ _ _ _ _ _ _ h => h
variable {β α γ δ : Type} {R : RR β α} {R' : RR γ δ} {S S1 : Sh} {s s1 : Stt} {σ : St} {H H1 : Hp}
theorem Pst.from {Q : β → Hp → Prop} {r : Ro α} (b : Bck R) (h : Pst K ct H0 R W S s σ H Q r) (t : Stp S s.M.length H S1 s1.M.length H1) : Pst K ct H0 R W S1 s1 σ H1 Q r := by
  cases r with
  | ok a s' => exact fun S' b' H' st rel q => h S' b' H' (t.trans st) rel (b _ _ _ _ _ _ _ _ t.dom q)
  | er x s' => exact fun S' H' dd st rel q => h S' H' dd (t.trans st) rel q
  | no => exact h
theorem Pst.bind {Q : γ → Hp → Prop} {Q1 : β → Hp → Prop} {r : Ro α} {f : α → Mo δ} (b : Bck R') (h : Pst K ct H0 R' W S s σ H Q (r.bind f))
    (k : ∀ S1 s1 H1 x a, Stp S s.M.length H S1 s1.M.length H1 → Rel K ct H0 S1 s1 σ H1 → R H S1 s1 σ H1 x a → Pst K ct H0 R' W S1 s1 σ H1 Q (f a s1) → Q1 x H1) : Pst K ct H0 R W S s σ H Q1 r := by
  cases r with
  | ok a s' => exact fun S' x H' st rel q => k S' s' H' x a st rel q (Pst.from b h st)
  | er x s' => exact h
  | no => exact h
theorem ItOk.step {Hs : Hp} {v : V} {a : AI} (t : Stp S s.M.length H S1 s1.M.length H1) (h : ItOk K ct Hs S s σ H v a) : ItOk K ct Hs S1 s1 σ H1 v a := by
  cases a with
  | val d => exact Rp.step t h
  | slot i => exact h
  | new c =>
    obtain ⟨p, e, h1, h2, h3, h4, h5⟩ := h
    obtain ⟨o, ho⟩ := h5.some
    obtain ⟨k1, k2⟩ := t.fr p o ho h2
    refine ⟨p, e, h1, k2, ?_, h4, h5.mono t.g t.al t.le fun u hu => (t.fr p u hu h2).1⟩
    cases q : S1.G p with
    | none => rfl
    | some u =>
      rcases t.gn p u q with z | z | ⟨l, z⟩
      · rw [h3] at z; cases z
      · rw [ho] at z; cases z
      · rw [h2] at z; cases z
/-! ## what an item shows -/
def Cn.aL : Cn → Option (List D)
  | .lst l => some l
  | _ => none
def Cn.aK : Cn → Option (List (Key × D))
  | .dK l => some l
  | _ => none
def Cn.aT : Cn → Option (List (List Key × D))
  | .dT l => some l
  | _ => none
def listOf (M : List Cn) : D → Option (List D)
  | .lst l => some l
  | .clst l => some l
  | .cid k => M[k]?.bind Cn.aL
  | _ => none
def tupOf : D → Option (List D)
  | .tup l => some l
  | .ctp l => some l
  | _ => none
def dictOf (M : List Cn) : D → Option (List (Key × D))
  | .dK l => some l
  | .cid k => M[k]?.bind Cn.aK
  | _ => none
def dictTOf (M : List Cn) : D → Option (List (List Key × D))
  | .dT l => some l
  | .cid k => M[k]?.bind Cn.aT
  | _ => none
def Ent.toD : Ent → D
  | .fz d => d
  | .ow c => c.toD
  | .xn _ => .non
def Ent.nox : Ent → Option Ent
  | .xn _ => none
  | e => some e
def entAt (s : Stt) (i : Nat) : Option Ent := ((s.env[i]?).getD none).bind Ent.nox
theorem nox_xn {o : Option Ent} {x : Exn} (h : o.bind Ent.nox = some (.xn x)) : False := by
  cases o with
  | none => cases h
  | some e => cases e <;> cases h
theorem entAt_xn {s : Stt} {i : Nat} {x : Exn} (h : entAt s i = some (.xn x)) : False := nox_xn h
theorem entAt_eq {s : Stt} {i : Nat} {e : Ent} (h : entAt s i = some e) : s.env[i]? = some (some e) := by
  unfold entAt at h
  cases q : s.env[i]? with
  | none => rw [q] at h; cases h
  | some z =>
    rw [q] at h
    cases z with
    | none => cases h
    | some z => cases z <;> cases h <;> rfl
/-- an item as data, what it has now -/
def look (s : Stt) : AI → Option D
  | .val d => some d
  | .new c => some c.toD
  | .slot i => (entAt s i).map Ent.toD
def viewL (s : Stt) (a : AI) : Option (List D) := (look s a).bind (listOf s.M)
def viewT (s : Stt) (a : AI) : Option (List D) := (look s a).bind tupOf
def viewD (s : Stt) (a : AI) : Option (List (Key × D)) := (look s a).bind (dictOf s.M)
def viewDT (s : Stt) (a : AI) : Option (List (List Key × D)) := (look s a).bind (dictTOf s.M)
/-- data as the whole heap shows it -/
theorem CnOk.rp {p : Addr} {c : Cn} (r : Rel K ct H0 S s σ H) (hc : c.isC = true) (h : CnOk K ct S s.M.length H p c) : Rp K (U ct.lk H) S.α s.M.length (.ref p) c.toD := by
  cases c with
  | lst l => obtain ⟨vs, h1, h2⟩ := h; exact .lst (uL h1) (h2.mono r.sub (fun _ _ => rfl) (Nat.le_refl _))
  | dK l => obtain ⟨vs, h1, h3, h2⟩ := h; exact .dK (uK h1) h3 (h2.mono r.sub (fun _ _ => rfl) (Nat.le_refl _))
  | dT l => obtain ⟨vs, h1, h3, h2⟩ := h; exact .dT (uT h1) h3 (h2.mono r.sub (fun _ _ => rfl) (Nat.le_refl _))
  | obj c fs => cases hc
theorem look_ok {Hs : Hp} {v : V} {a : AI} {d : D} (r : Rel K ct H0 S s σ H) (i : ItOk K ct Hs S s σ H v a) (e : look s a = some d) : Rp K (U ct.lk H) S.α s.M.length v d := by
  cases a with
  | val d' => cases e; exact Rp.mono r.sub (fun _ _ => rfl) (Nat.le_refl _) i
  | new c =>
    cases e
    obtain ⟨p, rfl, _, _, _, hc, h5⟩ := i
    exact h5.rp r hc
  | slot j =>
    obtain ⟨en, q0, rfl⟩ := Option.map_eq_some_iff.mp e
    have q := entAt_eq q0
    have hh := r.slot j en q
    have hi : σ[j]? = some (some v) := i
    cases en with
    | fz d' =>
      obtain ⟨v', h1, h2⟩ := hh
      rw [hi] at h1; cases h1
      exact h2.mono r.sub (fun _ _ => rfl) (Nat.le_refl _)
    | xn x => exact (entAt_xn q0).elim
    | ow c =>
      obtain ⟨p, h1, _, _, hc, h5⟩ := hh
      rw [hi] at h1; cases h1
      exact h5.rp r hc
/-- the parts of what an item shows are frozen -/
theorem viewL_ok {Hs : Hp} {v : V} {a : AI} {l : List D} (r : Rel K ct H0 S s σ H) (i : ItOk K ct Hs S s σ H v a) (e : viewL s a = some l) : ∃ p vs, v = .ref p ∧ SqL K H p vs ∧ RpL K S.G S.α s.M.length vs l := by
  have cidc : ∀ {k : Nat} {u : V}, Rp K S.G S.α s.M.length u (.cid k) → listOf s.M (.cid k) = some l → ∃ p vs, u = .ref p ∧ SqL K H p vs ∧ RpL K S.G S.α s.M.length vs l := fun {k u} h e => by
    cases h
    obtain ⟨c, q, e1⟩ := Option.bind_eq_some_iff.mp (show s.M[k]?.bind Cn.aL = some l from e)
    cases c with
    | lst l' =>
      cases e1
      obtain ⟨vs, h1, h2⟩ := (r.ids k _ q).2
      exact ⟨_, vs, rfl, .of h1, h2⟩
    | _ => cases e1
  have frz : ∀ {u : V} {d : D}, Rp K S.G S.α s.M.length u d → listOf s.M d = some l → ∃ p vs, u = .ref p ∧ SqL K H p vs ∧ RpL K S.G S.α s.M.length vs l := fun {u d} h e => by
    cases d with
    | lst l' => cases e; cases h with | lst h1 h2 => exact ⟨_, _, rfl, (.of (uL' (r.sub _ _ h1))), h2⟩
    | clst l' => cases e; cases h with | clst h1 h2 => exact ⟨_, _, rfl, uSqL (r.sub.seq h1), h2⟩
    | cid k => exact cidc h e
    | _ => cases e
  have own : ∀ {p : Addr} {c : Cn}, CnOk K ct S s.M.length H p c → c.isC = true → listOf s.M c.toD = some l → ∃ q vs, V.ref p = .ref q ∧ SqL K H q vs ∧ RpL K S.G S.α s.M.length vs l := fun {p c} h hc e => by
    cases c with
    | lst l' => cases e; obtain ⟨vs, h1, h2⟩ := h; exact ⟨p, vs, rfl, .of h1, h2⟩
    | dK l' => cases e
    | dT l' => cases e
    | obj _ _ => cases e
  unfold viewL at e
  cases a with
  | val d => exact frz i e
  | new c =>
    obtain ⟨p, rfl, _, _, _, hc, h5⟩ := i
    exact own h5 hc e
  | slot j =>
    obtain ⟨d, q0, e⟩ := Option.bind_eq_some_iff.mp e
    obtain ⟨en, q1, rfl⟩ := Option.map_eq_some_iff.mp q0
    have q := entAt_eq q1
    have hi : σ[j]? = some (some v) := i
    have hh := r.slot j en q
    cases en with
    | fz d =>
      obtain ⟨v', h1, h2⟩ := hh
      rw [hi] at h1; cases h1
      exact frz h2 e
    | xn x => exact (entAt_xn q1).elim
    | ow c =>
      obtain ⟨p, h1, _, _, hc, h5⟩ := hh
      rw [hi] at h1; cases h1
      exact own h5 hc e
theorem viewT_ok {Hs : Hp} {v : V} {a : AI} {l : List D} (r : Rel K ct H0 S s σ H) (i : ItOk K ct Hs S s σ H v a) (e : viewT s a = some l) : ∃ p vs, v = .ref p ∧ SqT K H p vs ∧ RpL K S.G S.α s.M.length vs l := by
  have frz : ∀ {u : V} {d : D}, Rp K S.G S.α s.M.length u d → tupOf d = some l → ∃ p vs, u = .ref p ∧ SqT K H p vs ∧ RpL K S.G S.α s.M.length vs l := fun {u d} h e => by
    cases d with
    | tup l' => cases e; cases h with | tup h1 h2 => exact ⟨_, _, rfl, .of (uP' (r.sub _ _ h1)), h2⟩
    | ctp l' => cases e; cases h with | ctp h1 h2 => exact ⟨_, _, rfl, uSqT (st_mono r.sub h1), h2⟩
    | _ => cases e
  unfold viewT at e
  cases a with
  | val d => exact frz i e
  | new c => cases c <;> cases e
  | slot j =>
    obtain ⟨d, q0, e⟩ := Option.bind_eq_some_iff.mp e
    obtain ⟨en, q1, rfl⟩ := Option.map_eq_some_iff.mp q0
    have q := entAt_eq q1
    have hi : σ[j]? = some (some v) := i
    have hh := r.slot j en q
    cases en with
    | fz d =>
      obtain ⟨v', h1, h2⟩ := hh
      rw [hi] at h1; cases h1
      exact frz h2 e
    | xn x => exact (entAt_xn q1).elim
    | ow c => cases c <;> cases e
/-! ## to a value -/
def Sh.frzL (S : Sh) (p : Addr) (o : HO) : Sh := ⟨upd S.G p o, S.α, fun a => if a = p then none else S.lab a⟩
def toV : AI → Mo D := fun a s => match a with
  | .val d => .ok d s
  | .new c => .ok c.toD s
  | .slot i => match entAt s i with
    | some (.ow c) => .ok c.toD ⟨s.env.set i (some (.fz c.toD)), s.M⟩
    | some (.fz d) => .ok d s
    | _ => .no
theorem rp_frz {p : Addr} {c : Cn} {n : Nat} {Hx : Hp} (hg : S.G p = none) (hc : c.isC = true) (h : CnOk K ct S n Hx p c) : ∃ o, U ct.lk Hx p = some o ∧ Rp K (upd S.G p o) S.α n (.ref p) c.toD := by
  have sg : ∀ o, Same S.G (upd S.G p o) := fun o a u e => by rw [upd_ne (ne_of_none e hg)]; exact e
  cases c with
  | lst l => obtain ⟨vs, h1, h2⟩ := h; exact ⟨_, uL h1, .lst upd_same (h2.mono (sg _) (fun _ _ => rfl) (Nat.le_refl _))⟩
  | dK l => obtain ⟨vs, h1, h3, h2⟩ := h; exact ⟨_, uK h1, .dK upd_same h3 (h2.mono (sg _) (fun _ _ => rfl) (Nat.le_refl _))⟩
  | dT l => obtain ⟨vs, h1, h3, h2⟩ := h; exact ⟨_, uT h1, .dT upd_same h3 (h2.mono (sg _) (fun _ _ => rfl) (Nat.le_refl _))⟩
  | obj c fs => cases hc
theorem Stp.frzNew {S' : Sh} {n n' : Nat} {H' : Hp} {p : Addr} {o : HO} (t : Stp S n H S' n' H') (hp : H p = none) (hg : S'.G p = none) : Stp S n H (S'.frz p o) n' H' where
  g := fun a u e => by show upd S'.G p o a = _; rw [upd_ne (ne_of_none (t.g a u e) hg)]; exact t.g a u e
  le := t.le
  al := t.al
  fr := t.fr
  gn := fun a u e => by
    have e1 : upd S'.G p o a = some u := e
    by_cases q : a = p
    · subst q; exact .inr (.inl hp)
    · rw [upd_ne q] at e1; exact t.gn a u e1
  dom := t.dom
theorem frz_slot {i : Nat} {c : Cn} (r : Rel K ct H0 S s σ H) (e : s.env[i]? = some (some (.ow c))) : ∃ S' v, σ[i]? = some (some v) ∧ Stp S s.M.length H S' s.M.length H ∧ Rel K ct H0 S' ⟨s.env.set i (some (.fz c.toD)), s.M⟩ σ H ∧ Rp K S'.G S'.α s.M.length v c.toD := by
  obtain ⟨p, h1, h2, h3, h4, h5⟩ := r.slot i _ e
  have hg := (r.lg p _ h3).1
  obtain ⟨o, ho, hr⟩ := rp_frz hg h4 h5
  have sg : Same S.G (upd S.G p o) := fun a u e => by rw [upd_ne (ne_of_none e hg)]; exact e
  have cn : ∀ {a : Addr} {c : Cn}, CnOk K ct S s.M.length H a c → CnOk K ct (S.frzL p o) s.M.length H a c := fun {a c} h => h.mono sg (fun _ _ => rfl) (Nat.le_refl _) (fun _ e => e)
  have labne : ∀ {a : Addr} {l : Lab}, S.lab a = some l → l ≠ .slot i → (S.frzL p o).lab a = some l := fun {a l} h ne => by
    show (if a = p then none else S.lab a) = _
    rw [if_neg (fun z => by subst z; rw [h3] at h; cases h; exact ne rfl)]
    exact h
  refine ⟨S.frzL p o, .ref p, h1, ⟨sg, Nat.le_refl _, fun _ _ => rfl, fun a u h l => ⟨h, ?_⟩, fun a u q => ?_, fun _ h => h⟩, ⟨fun a u q => ?_, fun a l q => ?_, r.dom, ?_, fun j en q => ?_, fun k c' q => ?_⟩, hr⟩
  · show (if a = p then none else S.lab a) = none
    split
    · rfl
    · exact l
  · have q1 : upd S.G p o a = some u := q
    by_cases z : a = p
    · subst z; exact .inr (.inr ⟨_, h3⟩)
    · rw [upd_ne z] at q1; exact .inl q1
  · have q1 : upd S.G p o a = some u := q
    by_cases z : a = p
    · subst z; rw [upd_same] at q1; cases q1; exact ho
    · rw [upd_ne z] at q1; exact r.sub a u q1
  · have q1 : (if a = p then none else S.lab a) = some l := q
    by_cases z : a = p
    · rw [if_pos z] at q1; cases q1
    · rw [if_neg z] at q1
      obtain ⟨k1, k2⟩ := r.lg a l q1
      refine ⟨?_, k2⟩
      show upd S.G p o a = none
      rw [upd_ne z]; exact k1
  · show σ.length = (s.env.set i _).length
    rw [List.length_set]; exact r.len
  · have q1 : (s.env.set i (some (.fz c.toD)))[j]? = some (some en) := q
    by_cases z : i = j
    · subst z
      have hlt : i < s.env.length := (List.getElem?_eq_some_iff.mp e).1
      rw [List.getElem?_set_self hlt] at q1
      cases q1
      exact ⟨_, h1, hr⟩
    · rw [List.getElem?_set_ne z] at q1
      have hh := r.slot j en q1
      cases en with
      | fz d => obtain ⟨v, k1, k2⟩ := hh; exact ⟨v, k1, k2.mono sg (fun _ _ => rfl) (Nat.le_refl _)⟩
      | xn x => exact xn_mono sg (fun _ _ => rfl) (Nat.le_refl _) rfl hh
      | ow c' =>
        obtain ⟨a, k1, k2, k3, k4, k5⟩ := hh
        exact ⟨a, k1, k2, labne k3 (fun w => by cases w; exact z rfl), k4, cn k5⟩
  · obtain ⟨k1, k2⟩ := r.ids k c' q
    exact ⟨labne k1 (fun w => by cases w), cn k2⟩
abbrev Ei (K : PySem.W.Frag) (ct : Ct) (H0 : Hp) (W : WX) (t : TE) (m : Mo AI) : Prop := Jd K ct H0 (RI K ct) W t m
abbrev Ev (K : PySem.W.Frag) (ct : Ct) (H0 : Hp) (W : WX) (t : TE) (m : Mo D) : Prop := Jd K ct H0 (RV K) W t m
abbrev EvL (K : PySem.W.Frag) (ct : Ct) (H0 : Hp) (W : WX) (t : TA) (m : Mo (List D)) : Prop := Jd K ct H0 (RVL K) W t m
abbrev Et (K : PySem.W.Frag) (ct : Ct) (H0 : Hp) (W : WX) (t : TT) (m : Mo Bool) : Prop := Jd K ct H0 RB W t m
abbrev Eo (K : PySem.W.Frag) (ct : Ct) (H0 : Hp) (W : WX) (t : TO) (m : Mo (Option Int)) : Prop := Jd K ct H0 RO W t m
def mV (m : Mo AI) : Mo D := fun s => (m s).bind toV
theorem ev_of {t : TE} {m : Mo AI} (h : Ei K ct H0 W t m) : Ev K ct H0 W t (mV m) := fun S s σ H Q rel p => h S s σ H Q rel (by
  unfold mV at p
  cases q : m s with
  | no => rw [q] at p; exact p
  | er x s' => rw [q] at p; exact p
  | ok a s' =>
    rw [q] at p
    have p : Pst K ct H0 (RV K) W S s σ H Q (toV a s') := p
    intro S' v H' st rel' it
    cases a with
    | val d => exact p S' v H' st rel' it
    | new c =>
      obtain ⟨pp, rfl, h1, h2, h3, h4, h5⟩ := it
      obtain ⟨o, ho, hr⟩ := rp_frz h3 h4 h5
      exact p (S'.frz pp o) _ H' (st.frzNew h1 h3) (rel'.frz ho h2 h3) hr
    | slot i =>
      have hi : σ[i]? = some (some v) := it
      have p : Pst K ct H0 (RV K) W S s σ H Q (match entAt s' i with | some (.ow c) => .ok c.toD ⟨s'.env.set i (some (.fz c.toD)), s'.M⟩ | some (.fz d) => .ok d s' | _ => .no) := p
      cases qe : entAt s' i with
      | none => rw [qe] at p; exact False.elim p
      | some en =>
        rw [qe] at p
        cases en with
        | fz d =>
          obtain ⟨v', k1, k2⟩ := rel'.slot i _ (entAt_eq qe)
          rw [hi] at k1; cases k1
          exact p S' v H' st rel' k2
        | xn x => exact False.elim p
        | ow c =>
          obtain ⟨S2, v', k1, st2, rel2, k2⟩ := frz_slot rel' (entAt_eq qe)
          rw [hi] at k1; cases k1
          exact p S2 v H' (st.trans st2) rel2 k2)
def mI (m : Mo D) : Mo AI := fun s => (m s).bind fun d s' => .ok (.val d) s'
theorem ei_of {t : TE} {m : Mo D} (h : Ev K ct H0 W t m) : Ei K ct H0 W t (mI m) := fun S s σ H Q rel p => h S s σ H Q rel (by
  unfold mI at p
  cases q : m s with
  | no => rw [q] at p; exact p
  | er x s' => rw [q] at p; exact p
  | ok a s' => rw [q] at p; exact p)
/-! ## expressions -/
def mName (i : Nat) : Mo AI := fun s => match entAt s i with
  | some (.fz d) => .ok (.val d) s
  | some (.ow _) => .ok (.slot i) s
  | _ => .no
theorem ei_var {i : Nat} : Ei K ct H0 W (tVar i) (mName i) := fun S s σ H Q rel p => by
  unfold mName at p
  cases q : entAt s i with
  | none => rw [q] at p; exact False.elim p
  | some en =>
    rw [q] at p
    cases en with
    | fz d =>
      obtain ⟨v, h1, h2⟩ := rel.slot i _ (entAt_eq q)
      exact ⟨v, h1, p S v H .refl rel h2⟩
    | xn x => exact False.elim p
    | ow c =>
      obtain ⟨a, h1, _⟩ := rel.slot i _ (entAt_eq q)
      exact ⟨_, h1, p S _ H .refl rel h1⟩
def mC (d : D) : Mo AI := fun s => .ok (.val d) s
/-- what stands for data whatever the heap -/
def CR (K : PySem.W.Frag) (v : V) (d : D) : Prop := ∀ G α n, Rp K G α n v d
theorem ei_c {v : V} {d : D} (h : CR K v d) : Ei K ct H0 W (tC v) (mC d) := fun S s σ H Q rel p => p S v H .refl rel (h _ _ _)
theorem cr_int {i : Int} : CR K (.int i) (.int i) := fun _ _ _ => .int i
theorem cr_bl {b : Bool} : CR K (.bl b) (.bl b) := fun _ _ _ => .bl b
theorem cr_str {x : Str} : CR K (.str x) (.str x) := fun _ _ _ => .str x
theorem cr_non : CR K .non .non := fun _ _ _ => .non
/-- an operator of two items -/
def J2 (K : PySem.W.Frag) (ct : Ct) (H0 : Hp) (r : R2) (f : Stt → AI → AI → Ro AI) : Prop := ∀ W S s σ H Hs Hs' x y a b Q, Rel K ct H0 S s σ H → ItOk K ct Hs S s σ H x a → ItOk K ct Hs' S s σ H y b → Pst K ct H0 (RI K ct) W S s σ H Q (f s a b) → r x y H Q
def J1 (K : PySem.W.Frag) (ct : Ct) (H0 : Hp) (r : V → Hp → VK → Prop) (f : Stt → AI → Ro AI) : Prop := ∀ W S s σ H Hs x a Q, Rel K ct H0 S s σ H → ItOk K ct Hs S s σ H x a → Pst K ct H0 (RI K ct) W S s σ H Q (f s a) → r x H Q
def mOp (f : Stt → AI → AI → Ro AI) (m1 m2 : Mo AI) : Mo AI := fun s => (m1 s).bind fun a s1 => (m2 s1).bind fun b s2 => f s2 a b
def mUn (f : Stt → AI → Ro AI) (m1 : Mo AI) : Mo AI := fun s => (m1 s).bind fun a s1 => f s1 a
theorem ei_op {r : R2} {f : Stt → AI → AI → Ro AI} {ta tb : TE} {m1 m2 : Mo AI} (ho : J2 K ct H0 r f) (h1 : Ei K ct H0 W ta m1) (h2 : Ei K ct H0 W tb m2) : Ei K ct H0 W (tOp r ta tb) (mOp f m1 m2) := fun S s σ H Q rel p =>
  h1 S s σ H _ rel (Pst.bind bI p fun S1 s1 H1 x a st1 rel1 i1 p1 => h2 S1 s1 σ H1 _ rel1 (Pst.bind bI p1 fun S2 s2 H2 y b st2 rel2 i2 p2 => ho W S2 s2 σ H2 _ _ x y a b Q rel2 (i1.step st2) i2 p2))
theorem ei_un {r : V → Hp → VK → Prop} {f : Stt → AI → Ro AI} {ta : TE} {m1 : Mo AI} (ho : J1 K ct H0 r f) (h1 : Ei K ct H0 W ta m1) : Ei K ct H0 W (tUn r ta) (mUn f m1) := fun S s σ H Q rel p =>
  h1 S s σ H _ rel (Pst.bind bI p fun S1 s1 H1 x a st1 rel1 i1 p1 => ho W S1 s1 σ H1 _ x a Q rel1 i1 p1)
end
end Y

namespace Y
open PySem L2 Z
section
variable {K : PySem.W.Frag} {ct : Ct} {H0 : Hp} {W : WX} {S : Sh} {s : Stt} {σ : St} {H : Hp} {Q : VK}
theorem Pst.val {d : D} {v : V} (p : Pst K ct H0 (RI K ct) W S s σ H Q (.ok (.val d) s)) (rel : Rel K ct H0 S s σ H) (h : Rp K S.G S.α s.M.length v d) : Q v H := p S v H .refl rel h
theorem Pst.newC {c : Cn} {q : Addr} {o : HO} (p : Pst K ct H0 (RI K ct) W S s σ H Q (.ok (.new c) s)) (rel : Rel K ct H0 S s σ H) (hp : H q = none) (hc : c.isC = true) (h : CnOk K ct S s.M.length (upd H q o) q c) : Q (.ref q) (upd H q o) :=
  p S _ _ (Stp.new rel hp) (rel.new hp) ⟨q, rfl, hp, rel.labN hp, rel.gN hp, hc, h⟩
theorem Pst.newL {l : List D} {vs : List V} {q : Addr} (p : Pst K ct H0 (RI K ct) W S s σ H Q (.ok (.new (.lst l)) s)) (rel : Rel K ct H0 S s σ H) (hp : H q = none) (h : RpL K S.G S.α s.M.length vs l) : Q (.ref q) (upd H q (.lst vs)) :=
  p.newC rel hp rfl ⟨vs, upd_same, h⟩
theorem Pst.newT {l : List D} {vs : List V} {q : Addr} (p : Pst K ct H0 (RI K ct) W S s σ H Q (.ok (.val (.tup l)) s)) (rel : Rel K ct H0 S s σ H) (hp : H q = none) (h : RpL K S.G S.α s.M.length vs l) : Q (.ref q) (upd H q (.tup vs)) := by
  have hg := rel.gN hp
  refine p (S.frz q (.tup vs)) _ _ ((Stp.new rel hp).frzNew hp hg) ((rel.new hp).frz (uP upd_same) (rel.labN hp) hg) ?_
  exact .tup upd_same (h.mono (fun a u e => by show upd S.G q _ a = _; rw [upd_ne (ne_of_none e hg)]; exact e) (fun _ _ => rfl) (Nat.le_refl _))
end
/-! ## operators -/
def fI0 (g : Int → Int → D) : Stt → AI → AI → Ro AI := fun s a b => match a, b with
  | .val (.int i), .val (.int j) => .ok (.val (g i j)) s
  | _, _ => .no
open Classical in
noncomputable def fI (C : Int → Int → Prop) (g : Int → Int → D) : Stt → AI → AI → Ro AI := fun s a b => match a, b with
  | .val (.int i), .val (.int j) => if C i j then .ok (.val (g i j)) s else .no
  | _, _ => .no
def fAdd : Stt → AI → AI → Ro AI := fun s a b => match a, b with
  | .val (.int i), .val (.int j) => .ok (.val (.int (i + j))) s
  | .val (.str x), .val (.str y) => if x.length + y.length ≤ sizeLine then .ok (.val (.str (x ++ y))) s else .no
  | a, b => match viewL s a, viewL s b with
    | some l, some l' => if l.length + l'.length ≤ sizeLine then .ok (.new (.lst (l ++ l'))) s else .no
    | _, _ => .no
/-- a list that is tracked -/
def listX (M : List Cn) : D → Option (List D)
  | .lst l => some l
  | .cid k => M[k]?.bind Cn.aL
  | _ => none
def viewX (s : Stt) (a : AI) : Option (List D) := (look s a).bind (listX s.M)
open Classical in
noncomputable def fMul : Stt → AI → AI → Ro AI := fun s a b => match a, b with
  | .val (.int i), .val (.int j) => if CMul i j then .ok (.val (.int (i * j))) s else .no
  | a, .val (.int j) => match viewX s a with
    | some l => if -(2 ^ 63) ≤ j ∧ j < 2 ^ 63 ∧ l.length * j.toNat ≤ sizeLine then .ok (.new (.lst (List.replicate j.toNat l).flatten)) s else .no
    | none => .no
  | _, _ => .no
mutual
def D.py : D → Option PyData
  | .non => some .none
  | .bl b => some (.bool b)
  | .int i => some (.int i)
  | .str x => some (.str x)
  | .tup l => (D.pyL l).map .tuple
  | .ctp l => (D.pyL l).map .tuple
  | .lst l => (D.pyL l).map .list
  | .clst l => (D.pyL l).map .list
  | _ => none
def D.pyL : List D → Option (List PyData)
  | [] => some []
  | d :: l => d.py.bind fun x => (D.pyL l).map (x :: ·)
end
def Cn.dat : Cn → Option D
  | .obj _ _ => none
  | c => some c.toD
def deref (M : List Cn) : D → Option D
  | .cid k => M[k]?.bind Cn.dat
  | d => some d
def pyOf (s : Stt) (a : AI) : Option PyData := ((look s a).bind (deref s.M)).bind D.py
def eqOf (s : Stt) (a b : AI) : Option Bool := (pyOf s a).bind fun x => (pyOf s b).bind fun y => if SeqAt.shaped x && SeqAt.shaped y then some (x.eqv y) else none
def fEq : Stt → AI → AI → Ro AI := fun s a b => match eqOf s a b with
  | some k => .ok (.val (.bl k)) s
  | none => .no
def fNe : Stt → AI → AI → Ro AI := fun s a b => match eqOf s a b with
  | some k => .ok (.val (.bl (!k))) s
  | none => .no
def D.isN : D → Bool
  | .non => true
  | _ => false
def isOf (s : Stt) (a b : AI) : Option Bool := match a, b with
  | .val (.bl x), .val (.bl y) => some (x == y)
  | a, .val .non => (look s a).map D.isN
  | _, _ => none
def fIs : Stt → AI → AI → Ro AI := fun s a b => match isOf s a b with
  | some k => .ok (.val (.bl k)) s
  | none => .no
def fIsn : Stt → AI → AI → Ro AI := fun s a b => match isOf s a b with
  | some k => .ok (.val (.bl (!k))) s
  | none => .no
def fIx : Stt → AI → AI → Ro AI := fun s a b => match b with
  | .val (.int i) => match a with
    | .val (.str z) => if z.length ≤ sizeLine then (match atI z.cps.toList i with
      | some c => .ok (.val (.str ⟨#[c]⟩)) s
      | none => .no) else .no
    | a => match viewL s a with
      | some l => (match atI l i with
        | some d => .ok (.val d) s
        | none => .no)
      | none => (match viewT s a with
        | some l => (match atI l i with
          | some d => .ok (.val d) s
          | none => .no)
        | none => .no)
  | _ => .no
section
variable {K : PySem.W.Frag} {ct : Ct} {H0 : Hp} {G : Hp} {α : Nat → Addr} {n : Nat}
mutual
theorem rp_dp : ∀ {d : D} {v : V} {x : PyData}, Rp K G α n v d → d.py = some x → Dp K G v x
  | .non, _, _, .non, e => by cases e; exact .non
  | .bl b, _, _, .bl _, e => by cases e; exact .bl b
  | .int i, _, _, .int _, e => by cases e; exact .int i
  | .str y, _, _, .str _, e => by cases e; exact .str y
  | .tup l, _, _, .tup h r, e => by
    obtain ⟨xs, q, rfl⟩ := Option.map_eq_some_iff.mp (show (D.pyL l).map PyData.tuple = some _ from e)
    exact .tup (.of h) (rpL_dp r q)
  | .ctp l, _, _, .ctp h r, e => by
    obtain ⟨xs, q, rfl⟩ := Option.map_eq_some_iff.mp (show (D.pyL l).map PyData.tuple = some _ from e)
    exact .tup h (rpL_dp r q)
  | .lst l, _, _, .lst h r, e => by
    obtain ⟨xs, q, rfl⟩ := Option.map_eq_some_iff.mp (show (D.pyL l).map PyData.list = some _ from e)
    exact .lst (.of h) (rpL_dp r q)
  | .clst l, _, _, .clst h r, e => by
    obtain ⟨xs, q, rfl⟩ := Option.map_eq_some_iff.mp (show (D.pyL l).map PyData.list = some _ from e)
    exact .lst h (rpL_dp r q)
  | .dK _, _, _, _, e => by cases e
  | .dT _, _, _, _, e => by cases e
  | .cid _, _, _, _, e => by cases e
  | .ty _, _, _, _, e => by cases e
theorem rpL_dp : ∀ {l : List D} {vs : List V} {xs : List PyData}, RpL K G α n vs l → D.pyL l = some xs → DpAll K G vs xs
  | [], _, _, .nil, e => by cases e; exact .nil
  | d :: l, _, _, .cons h r, e => by
    obtain ⟨x, q, e1⟩ := Option.bind_eq_some_iff.mp (show (d.py.bind fun x => (D.pyL l).map (x :: ·)) = some _ from e)
    obtain ⟨ys, q2, rfl⟩ := Option.map_eq_some_iff.mp e1
    exact .cons (rp_dp h q) (rpL_dp r q2)
end
mutual
theorem uDp {b : Option Addr} {H : Hp} : ∀ {v : V} {x : PyData}, Dp K (U b H) v x → Dp K H v x
  | _, _, .non => .non
  | _, _, .bl b => .bl b
  | _, _, .int i => .int i
  | _, _, .str y => .str y
  | _, _, .lst h r => .lst (uSqL h) (uDpL r)
  | _, _, .tup h r => .tup (uSqT h) (uDpL r)
theorem uDpL {b : Option Addr} {H : Hp} : ∀ {vs : List V} {xs : List PyData}, DpAll K (U b H) vs xs → DpAll K H vs xs
  | _, _, .nil => .nil
  | _, _, .cons h r => .cons (uDp h) (uDpL r)
end
variable {W : WX} {S : Sh} {s : Stt} {σ : St} {H : Hp} {Q : VK}
theorem deref_ok {v : V} {d e : D} (rel : Rel K ct H0 S s σ H) (h : Rp K (U ct.lk H) S.α s.M.length v d) (q : deref s.M d = some e) : Rp K (U ct.lk H) S.α s.M.length v e := by
  cases d with
  | cid k =>
    obtain ⟨c, hc, e1⟩ := Option.bind_eq_some_iff.mp (show s.M[k]?.bind Cn.dat = some e from q)
    cases h
    have hh := (rel.ids k c hc).2
    cases c with
    | obj _ _ => cases e1
    | lst l => cases e1; exact hh.rp rel rfl
    | dK l => cases e1; exact hh.rp rel rfl
    | dT l => cases e1; exact hh.rp rel rfl
  | _ => cases q; exact h
theorem pyOf_ok {Hs : Hp} {v : V} {a : AI} {x : PyData} (rel : Rel K ct H0 S s σ H) (i : ItOk K ct Hs S s σ H v a) (e : pyOf s a = some x) : Dp K H v x := by
  obtain ⟨d, e1, e2⟩ := Option.bind_eq_some_iff.mp e
  obtain ⟨d0, e0, e1⟩ := Option.bind_eq_some_iff.mp e1
  exact uDp (rp_dp (deref_ok rel (look_ok rel i e0) e1) e2)
theorem eqOf_ok {Hs Hs' : Hp} {v w : V} {a b : AI} {k : Bool} (rel : Rel K ct H0 S s σ H) (i : ItOk K ct Hs S s σ H v a) (j : ItOk K ct Hs' S s σ H w b) (e : eqOf s a b = some k) :
    ∃ x y, Dp K H v x ∧ Dp K H w y ∧ SeqAt.shaped x = true ∧ SeqAt.shaped y = true ∧ x.eqv y = k := by
  obtain ⟨x, e1, e⟩ := Option.bind_eq_some_iff.mp e
  obtain ⟨y, e2, e⟩ := Option.bind_eq_some_iff.mp e
  split at e
  · rename_i h
    rw [Bool.and_eq_true] at h
    cases e
    exact ⟨x, y, pyOf_ok rel i e1, pyOf_ok rel j e2, h.1, h.2, rfl⟩
  · cases e
theorem viewX_ok {Hs : Hp} {v : V} {a : AI} {l : List D} (r : Rel K ct H0 S s σ H) (i : ItOk K ct Hs S s σ H v a) (e : viewX s a = some l) : ∃ p vs, v = .ref p ∧ H p = some (.lst vs) ∧ RpL K S.G S.α s.M.length vs l := by
  have cidc : ∀ {k : Nat} {u : V}, Rp K S.G S.α s.M.length u (.cid k) → listX s.M (.cid k) = some l → ∃ p vs, u = .ref p ∧ H p = some (.lst vs) ∧ RpL K S.G S.α s.M.length vs l := fun {k u} h e => by
    cases h
    obtain ⟨c, q, e1⟩ := Option.bind_eq_some_iff.mp (show s.M[k]?.bind Cn.aL = some l from e)
    cases c with
    | lst l' =>
      cases e1
      obtain ⟨vs, h1, h2⟩ := (r.ids k _ q).2
      exact ⟨_, vs, rfl, h1, h2⟩
    | _ => cases e1
  have frz : ∀ {u : V} {d : D}, Rp K S.G S.α s.M.length u d → listX s.M d = some l → ∃ p vs, u = .ref p ∧ H p = some (.lst vs) ∧ RpL K S.G S.α s.M.length vs l := fun {u d} h e => by
    cases d with
    | lst l' => cases e; cases h with | lst h1 h2 => exact ⟨_, _, rfl, uL' (r.sub _ _ h1), h2⟩
    | cid k => exact cidc h e
    | _ => cases e
  have own : ∀ {p : Addr} {c : Cn}, CnOk K ct S s.M.length H p c → listX s.M c.toD = some l → ∃ q vs, V.ref p = .ref q ∧ H q = some (.lst vs) ∧ RpL K S.G S.α s.M.length vs l := fun {p c} h e => by
    cases c with
    | lst l' => cases e; obtain ⟨vs, h1, h2⟩ := h; exact ⟨p, vs, rfl, h1, h2⟩
    | dK l' => cases e
    | dT l' => cases e
    | obj _ _ => cases e
  unfold viewX at e
  cases a with
  | val d => exact frz i e
  | new c =>
    obtain ⟨p, rfl, _, _, _, hc, h5⟩ := i
    exact own h5 e
  | slot j =>
    obtain ⟨d, q0, e⟩ := Option.bind_eq_some_iff.mp e
    obtain ⟨en, q1, rfl⟩ := Option.map_eq_some_iff.mp q0
    have q := entAt_eq q1
    have hi : σ[j]? = some (some v) := i
    have hh := r.slot j en q
    cases en with
    | fz d =>
      obtain ⟨v', h1, h2⟩ := hh
      rw [hi] at h1; cases h1
      exact frz h2 e
    | xn x => exact (entAt_xn q1).elim
    | ow c =>
      obtain ⟨p, h1, _, _, hc, h5⟩ := hh
      rw [hi] at h1; cases h1
      exact own h5 e
/-! ### the rules -/
theorem rp_int {v : V} {i : Int} (h : Rp K G α n v (.int i)) : v = .int i := by cases h; rfl
theorem rp_str {v : V} {x : Str} (h : Rp K G α n v (.str x)) : v = .str x := by cases h; rfl
theorem rp_bl {v : V} {x : Bool} (h : Rp K G α n v (.bl x)) : v = .bl x := by cases h; rfl
theorem j_I0 {gV : Int → Int → V} {g : Int → Int → D} (hg : ∀ i j, CR K (gV i j) (g i j)) : J2 K ct H0 (rI0 gV) (fI0 g) := fun W S s σ H Hs Hs' x y a b Q rel ia ib p => by
  unfold fI0 at p
  split at p
  · rename_i i j
    cases rp_int ia; cases rp_int ib
    exact ⟨i, j, rfl, rfl, p.val rel (hg _ _ _ _ _)⟩
  · exact False.elim p
theorem j_I {C : Int → Int → Prop} {gV : Int → Int → V} {g : Int → Int → D} (hg : ∀ i j, CR K (gV i j) (g i j)) : J2 K ct H0 (rI C gV) (fI C g) := fun W S s σ H Hs Hs' x y a b Q rel ia ib p => by
  unfold fI at p
  split at p
  · rename_i i j
    cases rp_int ia; cases rp_int ib
    split at p
    · rename_i hc
      exact ⟨i, j, rfl, rfl, hc, p.val rel (hg _ _ _ _ _)⟩
    · exact False.elim p
  · exact False.elim p
theorem j_add : J2 K ct H0 (rAddZ K) fAdd := fun W S s σ H Hs Hs' x y a b Q rel ia ib p => by
  unfold fAdd at p
  split at p
  · rename_i i j
    cases rp_int ia; cases rp_int ib
    exact .inl (.inl ⟨i, j, rfl, rfl, p.val rel (.int _)⟩)
  · rename_i i j
    cases rp_str ia; cases rp_str ib
    split at p
    · rename_i hc
      exact .inl (.inr ⟨i, j, rfl, rfl, hc, p.val rel (.str _)⟩)
    · exact False.elim p
  · split at p
    · rename_i l l' e1 e2
      split at p
      · rename_i hc
        obtain ⟨p1, vs, rfl, h1, r1⟩ := viewL_ok rel ia e1
        obtain ⟨p2, us, rfl, h2, r2⟩ := viewL_ok rel ib e2
        refine .inr ⟨p1, p2, vs, us, rfl, rfl, h1, h2, by rw [r1.length, r2.length]; exact hc, fun q hq => p.newL rel hq (r1.append r2)⟩
      · exact False.elim p
    · exact False.elim p
theorem rpL_rep {vs : List V} {l : List D} (h : RpL K G α n vs l) : ∀ k : Nat, RpL K G α n (List.replicate k vs).flatten (List.replicate k l).flatten
  | 0 => .nil
  | k + 1 => by rw [List.replicate_succ, List.replicate_succ, List.flatten_cons, List.flatten_cons]; exact h.append (rpL_rep h k)
theorem j_mul : J2 K ct H0 rMulZ fMul := fun W S s σ H Hs Hs' x y a b Q rel ia ib p => by
  unfold fMul at p
  split at p
  · rename_i i j
    cases rp_int ia; cases rp_int ib
    split at p
    · rename_i hc
      exact .inl ⟨i, j, rfl, rfl, hc, p.val rel (.int _)⟩
    · exact False.elim p
  · rename_i a' j _
    cases rp_int ib
    split at p
    · rename_i l e1
      split at p
      · rename_i hc
        obtain ⟨p1, vs, rfl, h1, r1⟩ := viewX_ok rel ia e1
        exact .inr ⟨p1, j, vs, rfl, rfl, h1, hc.1, hc.2.1, by rw [r1.length]; exact hc.2.2, fun q hq => p.newL rel hq (rpL_rep r1 _)⟩
      · exact False.elim p
    · exact False.elim p
  · exact False.elim p
theorem j_eq : J2 K ct H0 (rEqZ K) fEq := fun W S s σ H Hs Hs' x y a b Q rel ia ib p => by
  unfold fEq at p
  split at p
  · rename_i k e
    obtain ⟨d, f, h1, h2, h3, h4, rfl⟩ := eqOf_ok rel ia ib e
    exact .inr ⟨d, f, h1, h2, h3, h4, p.val rel (.bl _)⟩
  · exact False.elim p
theorem j_ne : J2 K ct H0 (rNeZ K) fNe := fun W S s σ H Hs Hs' x y a b Q rel ia ib p => by
  unfold fNe at p
  split at p
  · rename_i k e
    obtain ⟨d, f, h1, h2, h3, h4, rfl⟩ := eqOf_ok rel ia ib e
    exact .inr ⟨d, f, h1, h2, h3, h4, p.val rel (.bl _)⟩
  · exact False.elim p
theorem rp_isN {v : V} {d : D} (h : Rp K G α n v d) : decide (v = .non) = d.isN := by cases h <;> rfl
theorem j_is : J2 K ct H0 rIsZ fIs := fun W S s σ H Hs Hs' x y a b Q rel ia ib p => by
  unfold fIs at p
  split at p
  · rename_i k e
    unfold isOf at e
    split at e
    · rename_i b1 b2
      cases rp_bl ia; cases rp_bl ib; cases e
      exact .inr ⟨b1, b2, rfl, rfl, p.val rel (.bl _)⟩
    · rename_i a' _
      obtain ⟨d, e1, rfl⟩ := Option.map_eq_some_iff.mp e
      have ib' : Rp K S.G S.α s.M.length y .non := ib
      cases ib'
      refine .inl ⟨rfl, ?_⟩
      rw [rp_isN (look_ok rel ia e1)]
      exact p.val rel (.bl _)
    · cases e
  · exact False.elim p
theorem j_isn : J2 K ct H0 rIsnZ fIsn := fun W S s σ H Hs Hs' x y a b Q rel ia ib p => by
  unfold fIsn at p
  split at p
  · rename_i k e
    unfold isOf at e
    split at e
    · rename_i b1 b2
      cases rp_bl ia; cases rp_bl ib; cases e
      exact .inr ⟨b1, b2, rfl, rfl, p.val rel (.bl _)⟩
    · rename_i a' _
      obtain ⟨d, e1, rfl⟩ := Option.map_eq_some_iff.mp e
      have ib' : Rp K S.G S.α s.M.length y .non := ib
      cases ib'
      refine .inl ⟨rfl, ?_⟩
      rw [rp_isN (look_ok rel ia e1)]
      exact p.val rel (.bl _)
    · cases e
  · exact False.elim p
theorem atI_rp {vs : List V} {l : List D} {i : Int} {d : D} (r : RpL K G α n vs l) (e : atI l i = some d) : ∃ v, atI vs i = some v ∧ Rp K G α n v d := by
  unfold atI at e ⊢
  obtain ⟨j, e1, e2⟩ := Option.bind_eq_some_iff.mp e
  obtain ⟨v, h1, h2⟩ := r.get e2
  exact ⟨v, by rw [r.length, e1]; exact h1, h2⟩
theorem j_ix : J2 K ct H0 (rIx K) fIx := fun W S s σ H Hs Hs' x y a b Q rel ia ib p => by
  unfold fIx at p
  split at p
  · rename_i i
    cases rp_int ib
    split at p
    · rename_i z
      cases rp_str ia
      split at p
      · rename_i hz
        split at p
        · rename_i c e
          exact .inr (.inr ⟨z, i, c, rfl, rfl, hz, e, p.val rel (.str _)⟩)
        · exact False.elim p
      · exact False.elim p
    · split at p
      · rename_i l e
        split at p
        · rename_i d e2
          obtain ⟨q, vs, rfl, h1, r1⟩ := viewL_ok rel ia e
          obtain ⟨v, h2, h3⟩ := atI_rp r1 e2
          exact .inl ⟨q, vs, i, v, rfl, rfl, h1, h2, p.val rel h3⟩
        · exact False.elim p
      · split at p
        · rename_i l e
          split at p
          · rename_i d e2
            obtain ⟨q, vs, rfl, h1, r1⟩ := viewT_ok rel ia e
            obtain ⟨v, h2, h3⟩ := atI_rp r1 e2
            exact .inr (.inl ⟨q, vs, i, v, rfl, rfl, h1, h2, p.val rel h3⟩)
          · exact False.elim p
        · exact False.elim p
  · exact False.elim p
end
end Y

namespace Y
open PySem L2 Z
/-! ## further rules of the layer below, several kinds at once -/
section
variable {X : Cx}
def rDIx : R2 := fun x y H Q => ∃ a v, x = .ref a ∧ DGet H a y (some v) ∧ Q v H
theorem ix_dict (hu : X.A.units + 1 < cLine) : IxR X rDIx := by
  intro value slice pins s σ H x y v u Q I rx ry h hs
  obtain ⟨a, r, rfl, g, q⟩ := h
  obtain rfl : v = Value.ref a := rx
  exact PyProof.Rows.tail_any (dict_typeIs I g) PySem.F.slot_dict_getitem.lookup (d_getItem hu I g ry fun w' s3 I3 rw' => ⟨r, H, I3, rw', q⟩) hs
def rIxY (K : PySem.W.Frag) : R2 := fun x y H Q => rIx K x y H Q ∨ rDIx x y H Q
theorem ix_Y {K : PySem.W.Frag} (hK : X.K = K) (hu : X.A.units + 1 < cLine) : IxR X (rIxY K) := by subst hK; exact ix_seq.or (ix_dict hu)
def rDIn (k : Bool → Bool) : R2 := fun y x H Q => ∃ a o, x = .ref a ∧ DGet H a y o ∧ Q (.bl (k o.isSome)) H
theorem op_din (hu : X.A.units + 1 < cLine) : OpR X (compareOp .In) (rDIn id) := by
  intro pins s σ H y x v u Q I ry rx h
  obtain ⟨a, o, rfl, g, q⟩ := h
  obtain rfl : u = Value.ref a := rx
  exact d_in hu I g ry fun s3 I3 => ⟨.bl o.isSome, H, I3, rfl, q⟩
theorem op_dnin (hu : X.A.units + 1 < cLine) : OpR X (compareOp .NotIn) (rDIn not) := by
  intro pins s σ H y x v u Q I ry rx h
  obtain ⟨a, o, rfl, g, q⟩ := h
  obtain rfl : u = Value.ref a := rx
  exact d_notIn hu I g ry fun s3 I3 => ⟨.bl (!o.isSome), H, I3, rfl, q⟩
def rSIn (k : Bool → Bool) : R2 := fun x y H Q => ∃ i j, x = .str i ∧ y = .str j ∧ Q (.bl (k (!(Builtin.Str.occurrences j i 0 j.length 1).isEmpty))) H
/-- in, not in: of a list, a tuple of flat things, a text, a dict -/
def rInY (K : PySem.W.Frag) : R2 := fun x y H Q => ((rInD K x y H Q ∨ rIn K false x y H Q) ∨ rSIn id x y H Q) ∨ rDIn id x y H Q
def rNinY (K : PySem.W.Frag) : R2 := fun x y H Q => ((rNotInD K x y H Q ∨ rIn K true x y H Q) ∨ rSIn not x y H Q) ∨ rDIn not x y H Q
theorem op_inY {K : PySem.W.Frag} (hK : X.K = K) (hu : X.A.units + 65 < cLine) : OpR X (compareOp .In) (rInY K) := by
  subst hK; exact L2.OpR.or (L2.OpR.or (L2.OpR.or (op_inD hu) op_in_seq) op_in_str) (op_din (by omega))
theorem op_ninY {K : PySem.W.Frag} (hK : X.K = K) (hu : X.A.units + 65 < cLine) : OpR X (compareOp .NotIn) (rNinY K) := by
  subst hK; exact L2.OpR.or (L2.OpR.or (L2.OpR.or (op_notInD hu) op_notIn_seq) op_notin_str) (op_dnin (by omega))
/-- len of a dict, too -/
def rLenY (K : PySem.W.Frag) : List V → Hp → VK → Prop := fun xs H Q => rLenZ K xs H Q ∨ ∃ a kvs, xs = [V.ref a] ∧ Rd H a (.dK kvs) ∧ Q (.int kvs.length) H
theorem call_lenR : CallR X (.builtin "len") (fun xs H Q => ∃ a kvs, xs = [V.ref a] ∧ Rd H a (.dK kvs) ∧ Q (.int kvs.length) H) := by
  intro pins s σ H xs us Q I r h
  obtain ⟨a, kvs, rfl, ha, q⟩ := h
  obtain ⟨u, rfl, ru⟩ := vals1 r
  cases ru
  exact d_len I ha fun t s' I' => ⟨.int kvs.length, H, I', ⟨t, rfl⟩, q⟩
theorem call_lenY {K : PySem.W.Frag} (hK : X.K = K) : CallR X (.builtin "len") (rLenY K) := L2.CallR.or (call_lenZ hK) call_lenR
end
/-! ## dicts as lists of pairs -/
section
variable {κ β γ : Type} [DecidableEq κ]
def vl (l : List (κ × β)) (k : κ) : Option β := (l.find? fun p => decide (p.1 = k)).map (·.2)
def pu (l : List (κ × β)) (k : κ) (v : β) : List (κ × β) := if (l.any fun p => decide (p.1 = k)) = true then l.map (fun p => if p.1 = k then (p.1, v) else p) else l ++ [(k, v)]
def dr (l : List (κ × β)) (k : κ) : List (κ × β) := l.filter fun p => decide (p.1 ≠ k)
end
section
variable {K : PySem.W.Frag} {G : Hp} {α : Nat → Addr} {n : Nat} {κ : Type} [DecidableEq κ]
inductive RpK (K : PySem.W.Frag) (G : Hp) (α : Nat → Addr) (n : Nat) {κ : Type} : List (κ × V) → List (κ × D) → Prop
  | nil : RpK K G α n [] []
  | cons {k : κ} {v : V} {d : D} {kvs : List (κ × V)} {l : List (κ × D)} : Rp K G α n v d → RpK K G α n kvs l → RpK K G α n ((k, v) :: kvs) ((k, d) :: l)
theorem RpK.of {κ : Type} : ∀ {kvs : List (κ × V)} {l : List (κ × D)}, kvs.map Prod.fst = l.map Prod.fst → RpL K G α n (kvs.map Prod.snd) (l.map Prod.snd) → RpK K G α n kvs l
  | [], [], _, _ => .nil
  | [], _ :: _, e, _ => by simp at e
  | _ :: _, [], e, _ => by simp at e
  | (k, v) :: r, (k', d) :: r', e, h => by
    simp only [List.map_cons] at e h
    injection e with e1 e2
    have e1 : k = k' := e1
    subst e1
    cases h with
    | cons a b => exact .cons a (RpK.of e2 b)
theorem RpK.keys {κ : Type} : ∀ {kvs : List (κ × V)} {l : List (κ × D)}, RpK K G α n kvs l → kvs.map Prod.fst = l.map Prod.fst
  | _, _, .nil => rfl
  | _, _, .cons _ r => by rw [List.map_cons, List.map_cons, r.keys]
theorem RpK.vals {κ : Type} : ∀ {kvs : List (κ × V)} {l : List (κ × D)}, RpK K G α n kvs l → RpL K G α n (kvs.map Prod.snd) (l.map Prod.snd)
  | _, _, .nil => .nil
  | _, _, .cons a r => .cons a r.vals
theorem RpK.len {κ : Type} {kvs : List (κ × V)} {l : List (κ × D)} (h : RpK K G α n kvs l) : kvs.length = l.length := by
  have := congrArg List.length h.keys
  simpa using this
theorem RpK.get {k : κ} : ∀ {kvs : List (κ × V)} {l : List (κ × D)}, RpK K G α n kvs l → (vl l k = none ∧ valV kvs k = none) ∨ ∃ v d, vl l k = some d ∧ valV kvs k = some v ∧ Rp K G α n v d
  | _, _, .nil => .inl ⟨rfl, rfl⟩
  | _, _, .cons (k := k') (v := v) (d := d) (kvs := kvs) (l := l) a r => by
    by_cases e : k' = k
    · refine .inr ⟨v, d, ?_, ?_, a⟩
      · unfold vl; rw [List.find?_cons, decide_eq_true (show (k', d).1 = k from e)]; rfl
      · exact valV_pos e
    · have h1 : vl ((k', d) :: l) k = vl l k := by unfold vl; rw [List.find?_cons, decide_eq_false (show ¬ (k', d).1 = k from e)]
      rw [h1, valV_neg (p := (k', v)) e]
      exact r.get
theorem RpK.append {κ : Type} : ∀ {kvs kvs' : List (κ × V)} {l l' : List (κ × D)}, RpK K G α n kvs l → RpK K G α n kvs' l' → RpK K G α n (kvs ++ kvs') (l ++ l')
  | _, _, _, _, .nil, h => h
  | _, _, _, _, .cons a r, h => .cons a (r.append h)
theorem RpK.any {k : κ} : ∀ {kvs : List (κ × V)} {l : List (κ × D)}, RpK K G α n kvs l → (kvs.any fun p => decide (p.1 = k)) = l.any fun p => decide (p.1 = k)
  | _, _, .nil => rfl
  | _, _, .cons _ r => by rw [List.any_cons, List.any_cons, r.any]
theorem RpK.put {k : κ} {v : V} {d : D} {kvs : List (κ × V)} {l : List (κ × D)} (h : RpK K G α n kvs l) (hv : Rp K G α n v d) : RpK K G α n (putK kvs k v) (pu l k d) := by
  have mp : ∀ {kvs : List (κ × V)} {l : List (κ × D)}, RpK K G α n kvs l → RpK K G α n (kvs.map fun kv => if kv.1 = k then (kv.1, v) else kv) (l.map fun p => if p.1 = k then (p.1, d) else p) := by
    intro kvs l h
    induction h with
    | nil => exact .nil
    | @cons k' v' d' kvs l a r ih =>
      rw [List.map_cons, List.map_cons]
      by_cases e : k' = k
      · rw [if_pos (show (k', v').1 = k from e), if_pos (show (k', d').1 = k from e)]; exact .cons hv ih
      · rw [if_neg (show ¬ (k', v').1 = k from e), if_neg (show ¬ (k', d').1 = k from e)]; exact .cons a ih
  unfold putK pu
  rw [h.any]
  split
  · exact mp h
  · exact h.append (.cons hv .nil)
theorem RpK.drop {k : κ} : ∀ {kvs : List (κ × V)} {l : List (κ × D)}, RpK K G α n kvs l → RpK K G α n (dropK kvs k) (dr l k)
  | _, _, .nil => .nil
  | _, _, .cons (k := k') (v := v) (d := d) (kvs := kvs) (l := l) a r => by
    unfold dropK dr
    rw [List.filter_cons, List.filter_cons]
    by_cases e : k' = k
    · rw [if_neg (by simp [e]), if_neg (by simp [e])]; exact r.drop
    · rw [if_pos (by simp [e]), if_pos (by simp [e])]; exact .cons a r.drop
theorem RpK.mono {κ : Type} {G' : Hp} {α' : Nat → Addr} {n' : Nat} {kvs : List (κ × V)} {l : List (κ × D)} (s : Same G G') (ha : ∀ k, k < n → α' k = α k) (hn : n ≤ n') (h : RpK K G α n kvs l) : RpK K G' α' n' kvs l := RpK.of h.keys (h.vals.mono s ha hn)
end
/-! ## tests -/
section
variable {K : PySem.W.Frag} {ct : Ct} {H0 : Hp} {W : WX}
def truD (M : List Cn) : D → Option Bool
  | .non => some false
  | .bl b => some b
  | .int i => some (!decide (i = 0))
  | .str x => if x.length ≤ sizeLine then some (!decide ((x.length : Int) = 0)) else none
  | .tup l => some (!l.isEmpty)
  | .ctp l => some (!l.isEmpty)
  | .lst l => some (!l.isEmpty)
  | .clst l => some (!l.isEmpty)
  | .cid k => M[k]?.bind fun c => match c with
    | .lst l => some (!l.isEmpty)
    | .dK l => some (!l.isEmpty)
    | _ => none
  | _ => none
def mTru (m : Mo AI) : Mo Bool := fun s => (m s).bind fun a s1 => match (look s1 a).bind (truD s1.M) with
  | some b => .ok b s1
  | none => .no
theorem emp_len {α β : Type} {l : List α} {m : List β} (h : l.length = m.length) : (!l.isEmpty) = !m.isEmpty := by
  cases l <;> cases m <;> first | rfl | (simp at h)
theorem tru_ok {S : Sh} {s : Stt} {σ : St} {H : Hp} {v : V} {d : D} {b : Bool} (rel : Rel K ct H0 S s σ H) (r : Rp K (U ct.lk H) S.α s.M.length v d) (e : truD s.M d = some b) : TruV K v H b := by
  cases r with
  | non => cases e; rfl
  | bl b => cases e; rfl
  | int i =>
    cases e
    show (!decide (i = 0)) = (i != 0)
    by_cases q : i = 0 <;> simp [q]
  | str x =>
    have e1 : (if x.length ≤ sizeLine then some (!decide ((x.length : Int) = 0)) else none) = some b := e
    by_cases h : x.length ≤ sizeLine
    · rw [if_pos h] at e1
      cases e1
      refine ⟨h, ?_⟩
      by_cases q : (x.length : Int) = 0
      · rw [decide_eq_true q, q]; rfl
      · rw [decide_eq_false q]; exact (bne_iff_ne.mpr q).symm
    · rw [if_neg h] at e1; cases e1
  | tup h r => cases e; exact .inr (.inl ⟨_, .of (uP' h), (emp_len r.length).symm⟩)
  | ctp h r => cases e; exact .inr (.inl ⟨_, uSqT h, (emp_len r.length).symm⟩)
  | lst h r => cases e; exact .inl ⟨_, .of (uL' h), (emp_len r.length).symm⟩
  | clst h r => cases e; exact .inl ⟨_, uSqL h, (emp_len r.length).symm⟩
  | dK h e1 r => cases e
  | dT h e1 r => cases e
  | ty m => cases e
  | @cid k h =>
    obtain ⟨c, q, e1⟩ := Option.bind_eq_some_iff.mp e
    have hh := (rel.ids k c q).2
    cases c with
    | lst l => cases e1; obtain ⟨vs, h1, h2⟩ := hh; exact .inl ⟨_, .of h1, (emp_len h2.length).symm⟩
    | dK l => cases e1; obtain ⟨vs, h1, h3, h2⟩ := hh; exact .inr (.inr ⟨_, h1, (emp_len (RpK.of h3 h2).len).symm⟩)
    | dT l => cases e1
    | obj c fs => cases e1
theorem et_tru {ta : TE} {m : Mo AI} (h : Ei K ct H0 W ta m) : Et K ct H0 W (tTruZ K ta) (mTru m) := fun S s σ H Q rel p =>
  h S s σ H _ rel (Pst.bind bB p fun S1 s1 H1 x a st1 rel1 i1 p1 => by
    split at p1
    · rename_i b e
      obtain ⟨d, e1, e2⟩ := Option.bind_eq_some_iff.mp e
      exact ⟨b, tru_ok rel1 (look_ok rel1 i1 e1) e2, p1 S1 b H1 .refl rel1 rfl⟩
    · exact False.elim p1)
/-- a truth value -/
def blOf : AI → Option Bool
  | .val (.bl b) => some b
  | _ => none
def mBl (m : Mo AI) : Mo Bool := fun s => (m s).bind fun a s1 => match blOf a with
  | some b => .ok b s1
  | none => .no
theorem blOf_eq {a : AI} {b : Bool} (e : blOf a = some b) : a = .val (.bl b) := by
  unfold blOf at e
  split at e
  · cases e; rfl
  · cases e
theorem et_tst {ta : TE} {m : Mo AI} (h : Ei K ct H0 W ta m) : Et K ct H0 W (tTest ta) (mBl m) := fun S s σ H Q rel p =>
  h S s σ H _ rel (Pst.bind bB p fun S1 s1 H1 x a st1 rel1 i1 p1 => by
    split at p1
    · rename_i b e
      cases blOf_eq e
      cases rp_bl i1
      exact ⟨b, rfl, p1 S1 b H1 .refl rel1 rfl⟩
    · exact False.elim p1)
theorem et_B {ta : TE} {m : Mo AI} (h : Ei K ct H0 W ta m) : Et K ct H0 W (tB ta) (mBl m) := et_tst h
def mAnd (m1 m2 : Mo Bool) : Mo Bool := fun s => (m1 s).bind fun c s1 => if c = true then m2 s1 else .ok false s1
def mOr (m1 m2 : Mo Bool) : Mo Bool := fun s => (m1 s).bind fun c s1 => if c = true then .ok true s1 else m2 s1
def mNot (m1 : Mo Bool) : Mo Bool := fun s => (m1 s).bind fun c s1 => .ok (!c) s1
theorem et_and {t u : TT} {m1 m2 : Mo Bool} (h1 : Et K ct H0 W t m1) (h2 : Et K ct H0 W u m2) : Et K ct H0 W (tAnd t u) (mAnd m1 m2) := fun S s σ H Q rel p =>
  h1 S s σ H _ rel (Pst.bind bB p fun S1 s1 H1 x a st1 rel1 i1 p1 => by
    cases (show x = a from i1)
    cases x with
    | true => rw [if_pos rfl] at p1 ⊢; exact h2 S1 s1 σ H1 Q rel1 p1
    | false => rw [if_neg Bool.false_ne_true] at p1 ⊢; exact p1 S1 false H1 .refl rel1 rfl)
theorem et_or {t u : TT} {m1 m2 : Mo Bool} (h1 : Et K ct H0 W t m1) (h2 : Et K ct H0 W u m2) : Et K ct H0 W (tOr t u) (mOr m1 m2) := fun S s σ H Q rel p =>
  h1 S s σ H _ rel (Pst.bind bB p fun S1 s1 H1 x a st1 rel1 i1 p1 => by
    cases (show x = a from i1)
    cases x with
    | true => rw [if_pos rfl] at p1 ⊢; exact p1 S1 true H1 .refl rel1 rfl
    | false => rw [if_neg Bool.false_ne_true] at p1 ⊢; exact h2 S1 s1 σ H1 Q rel1 p1)
theorem et_not {t : TT} {m1 : Mo Bool} (h1 : Et K ct H0 W t m1) : Et K ct H0 W (tNot t) (mNot m1) := fun S s σ H Q rel p =>
  h1 S s σ H _ rel (Pst.bind bB p fun S1 s1 H1 x a st1 rel1 i1 p1 => by
    cases (show x = a from i1)
    exact p1 S1 (!x) H1 .refl rel1 rfl)
/-- and, or, not as values, of truth values -/
def mAndV (m1 m2 : Mo AI) : Mo AI := fun s => (m1 s).bind fun a s1 => match blOf a with
  | some true => m2 s1
  | some false => .ok (.val (.bl false)) s1
  | none => .no
def mOrV (m1 m2 : Mo AI) : Mo AI := fun s => (m1 s).bind fun a s1 => match blOf a with
  | some true => .ok (.val (.bl true)) s1
  | some false => m2 s1
  | none => .no
def mNotV (m1 : Mo AI) : Mo AI := fun s => (m1 s).bind fun a s1 => match blOf a with
  | some b => .ok (.val (.bl (!b))) s1
  | none => .no
theorem ei_andV {ta tb : TE} {m1 m2 : Mo AI} (h1 : Ei K ct H0 W ta m1) (h2 : Ei K ct H0 W tb m2) : Ei K ct H0 W (tAndV ta tb) (mAndV m1 m2) := fun S s σ H Q rel p =>
  h1 S s σ H _ rel (Pst.bind bI p fun S1 s1 H1 x a st1 rel1 i1 p1 => by
    split at p1
    · rename_i e; cases blOf_eq e; cases rp_bl i1
      exact ⟨true, rfl, by rw [if_pos rfl]; exact h2 S1 s1 σ H1 Q rel1 p1⟩
    · rename_i e; cases blOf_eq e; cases rp_bl i1
      exact ⟨false, rfl, by rw [if_neg Bool.false_ne_true]; exact p1.val rel1 (.bl _)⟩
    · exact False.elim p1)
theorem ei_orV {ta tb : TE} {m1 m2 : Mo AI} (h1 : Ei K ct H0 W ta m1) (h2 : Ei K ct H0 W tb m2) : Ei K ct H0 W (tOrV ta tb) (mOrV m1 m2) := fun S s σ H Q rel p =>
  h1 S s σ H _ rel (Pst.bind bI p fun S1 s1 H1 x a st1 rel1 i1 p1 => by
    split at p1
    · rename_i e; cases blOf_eq e; cases rp_bl i1
      exact ⟨true, rfl, by rw [if_pos rfl]; exact p1.val rel1 (.bl _)⟩
    · rename_i e; cases blOf_eq e; cases rp_bl i1
      exact ⟨false, rfl, by rw [if_neg Bool.false_ne_true]; exact h2 S1 s1 σ H1 Q rel1 p1⟩
    · exact False.elim p1)
theorem ei_notV {ta : TE} {m1 : Mo AI} (h1 : Ei K ct H0 W ta m1) : Ei K ct H0 W (tNotV ta) (mNotV m1) := fun S s σ H Q rel p =>
  h1 S s σ H _ rel (Pst.bind bI p fun S1 s1 H1 x a st1 rel1 i1 p1 => by
    split at p1
    · rename_i b e; cases blOf_eq e; cases rp_bl i1
      exact ⟨b, rfl, p1.val rel1 (.bl _)⟩
    · exact False.elim p1)
def mIf {α : Type} (c : Mo Bool) (m1 m2 : Mo α) : Mo α := fun s => (c s).bind fun b s1 => if b = true then m1 s1 else m2 s1
theorem ei_if {c : TT} {ta tb : TE} {mc : Mo Bool} {m1 m2 : Mo AI} (hc : Et K ct H0 W c mc) (h1 : Ei K ct H0 W ta m1) (h2 : Ei K ct H0 W tb m2) : Ei K ct H0 W (tIf c ta tb) (mIf mc m1 m2) := fun S s σ H Q rel p =>
  hc S s σ H _ rel (Pst.bind bI p fun S1 s1 H1 x a st1 rel1 i1 p1 => by
    cases (show x = a from i1)
    cases x with
    | true => rw [if_pos rfl] at p1 ⊢; exact h1 S1 s1 σ H1 Q rel1 p1
    | false => rw [if_neg Bool.false_ne_true] at p1 ⊢; exact h2 S1 s1 σ H1 Q rel1 p1)
/-- a < b < c: nothing is changed in between -/
def mChain (f f' : Stt → AI → AI → Ro AI) (m1 m2 m3 : Mo AI) : Mo AI := fun s => (m1 s).bind fun a s1 => (m2 s1).bind fun b s2 => (f s2 a b).bind fun z s3 => match blOf z with
  | some true => (m3 s3).bind fun c s4 => f' s4 b c
  | some false => .ok (.val (.bl false)) s3
  | none => .no
theorem ei_chain {r r' : R2} {f f' : Stt → AI → AI → Ro AI} {ta tb tc : TE} {m1 m2 m3 : Mo AI} (ho : J2 K ct H0 r f) (ho' : J2 K ct H0 r' f') (h1 : Ei K ct H0 W ta m1) (h2 : Ei K ct H0 W tb m2) (h3 : Ei K ct H0 W tc m3) : Ei K ct H0 W (tChain r r' ta tb tc) (mChain f f' m1 m2 m3) := fun S s σ H Q rel p =>
  h1 S s σ H _ rel (Pst.bind bI p fun S1 s1 H1 x a st1 rel1 i1 p1 => h2 S1 s1 σ H1 _ rel1 (Pst.bind bI p1 fun S2 s2 H2 y b st2 rel2 i2 p2 =>
    ho W S2 s2 σ H2 _ _ x y a b _ rel2 (i1.step st2) i2 (Pst.bind bI p2 fun S3 s3 H3 z c st3 rel3 i3 p3 => by
      split at p3
      · rename_i e; cases blOf_eq e; cases rp_bl i3
        exact ⟨true, rfl, by rw [if_pos rfl]; exact h3 S3 s3 σ H3 _ rel3 (Pst.bind bI p3 fun S4 s4 H4 z' c' st4 rel4 i4 p4 => ho' W S4 s4 σ H4 _ _ y z' b c' Q rel4 ((i2.step st3).step st4) i4 p4)⟩
      · rename_i e; cases blOf_eq e; cases rp_bl i3
        exact ⟨false, rfl, by rw [if_neg Bool.false_ne_true]; exact p3.val rel3 (.bl _)⟩
      · exact False.elim p3)))
end
end Y

namespace Y
open PySem L2 Z
section
variable {K : PySem.W.Frag} {ct : Ct} {H0 : Hp} {W : WX}
/-! ## lists of expressions -/
inductive AsOk (K : PySem.W.Frag) (ct : Ct) (Hs : Hp) (S : Sh) (s : Stt) (σ : St) (H : Hp) : List V → List AI → Prop
  | nil : AsOk K ct Hs S s σ H [] []
  | cons {v : V} {a : AI} {vs : List V} {as : List AI} : ItOk K ct Hs S s σ H v a → AsOk K ct Hs S s σ H vs as → AsOk K ct Hs S s σ H (v :: vs) (a :: as)
def RA (K : PySem.W.Frag) (ct : Ct) : RR (List V) (List AI) := fun H S s σ H' v a => AsOk K ct H S s σ H' v a
theorem bA : Bck (RA K ct) := fun H1 H S s σ H' v a k h => by
  induction (show AsOk K ct H1 S s σ H' v a from h) with
  | nil => exact AsOk.nil
  | cons i _ ih => exact AsOk.cons (bI _ _ _ _ _ _ _ _ k i) (ih ‹_›)
abbrev EaL (K : PySem.W.Frag) (ct : Ct) (H0 : Hp) (W : WX) (t : TA) (m : Mo (List AI)) : Prop := Jd K ct H0 (RA K ct) W t m
def aNil : Mo (List AI) := fun s => .ok [] s
def aCons (m : Mo AI) (r : Mo (List AI)) : Mo (List AI) := fun s => (m s).bind fun a s1 => (r s1).bind fun as s2 => .ok (a :: as) s2
theorem ea_nil : EaL K ct H0 W tNil aNil := fun S s σ H Q rel p => p S [] H .refl rel .nil
theorem ea_cons {ta : TE} {tr : TA} {m : Mo AI} {r : Mo (List AI)} (h1 : Ei K ct H0 W ta m) (h2 : EaL K ct H0 W tr r) : EaL K ct H0 W (tCons ta tr) (aCons m r) := fun S s σ H Q rel p =>
  h1 S s σ H _ rel (by
    unfold aCons at p
    cases q : m s with
    | no => rw [q] at p; exact p
    | er x s' => rw [q] at p; exact p
    | ok a s1 =>
      rw [q] at p
      have p : Pst K ct H0 (RA K ct) W S s σ H Q ((r s1).bind fun as s2 => .ok (a :: as) s2) := p
      intro S1 v H1 st1 rel1 i1
      refine h2 S1 s1 σ H1 _ rel1 ?_
      cases q2 : r s1 with
      | no => rw [q2] at p; exact p
      | er x s' => rw [q2] at p; exact fun S' H' dd st rel q => p S' H' dd (st1.trans st) rel q
      | ok as s2 =>
        rw [q2] at p
        exact fun S2 vs H2 st2 rel2 i2 => p S2 (v :: vs) H2 (st1.trans st2) rel2 (.cons (i1.step st2) (bA _ _ _ _ _ _ _ _ st1.dom i2)))
def vNil : Mo (List D) := fun s => .ok [] s
def vCons (m : Mo AI) (r : Mo (List D)) : Mo (List D) := fun s => (mV m s).bind fun a s1 => (r s1).bind fun as s2 => .ok (a :: as) s2
theorem ev_nil : EvL K ct H0 W tNil vNil := fun S s σ H Q rel p => p S [] H .refl rel .nil
theorem ev_cons {ta : TE} {tr : TA} {m : Mo AI} {r : Mo (List D)} (h1 : Ei K ct H0 W ta m) (h2 : EvL K ct H0 W tr r) : EvL K ct H0 W (tCons ta tr) (vCons m r) := fun S s σ H Q rel p =>
  ev_of h1 S s σ H _ rel (Pst.bind bVL p fun S1 s1 H1 x a st1 rel1 i1 p1 => h2 S1 s1 σ H1 _ rel1 (Pst.bind bVL p1 fun S2 s2 H2 y b st2 rel2 i2 p2 => p2 S2 (x :: y) H2 .refl rel2 (.cons (Rp.step st2 i1) i2)))
/-! ## displays, slices -/
def mLst (m : Mo (List D)) : Mo AI := fun s => (m s).bind fun l s1 => if l.length ≤ sizeLine then .ok (.new (.lst l)) s1 else .no
def mTup (m : Mo (List D)) : Mo AI := fun s => (m s).bind fun l s1 => if l.length ≤ sizeLine then .ok (.val (.tup l)) s1 else .no
theorem ei_lst {t : TA} {m : Mo (List D)} (h : EvL K ct H0 W t m) : Ei K ct H0 W (tLst t) (mLst m) := fun S s σ H Q rel p =>
  h S s σ H _ rel (Pst.bind bI p fun S1 s1 H1 x a st1 rel1 i1 p1 => by
    split at p1
    · rename_i hz
      exact ⟨by rw [RpL.length i1]; exact hz, fun q hq => p1.newL rel1 hq i1⟩
    · exact False.elim p1)
theorem ei_tup {t : TA} {m : Mo (List D)} (h : EvL K ct H0 W t m) : Ei K ct H0 W (tTup t) (mTup m) := fun S s σ H Q rel p =>
  h S s σ H _ rel (Pst.bind bI p fun S1 s1 H1 x a st1 rel1 i1 p1 => by
    split at p1
    · rename_i hz
      exact ⟨by rw [RpL.length i1]; exact hz, fun q hq => p1.newT rel1 hq i1⟩
    · exact False.elim p1)
def oNo : Mo (Option Int) := fun s => .ok none s
def oSm (m : Mo AI) : Mo (Option Int) := fun s => (m s).bind fun a s1 => match a with
  | .val (.int i) => .ok (some i) s1
  | _ => .no
theorem eo_no : Eo K ct H0 W tNoPart oNo := fun S s σ H Q rel p => p S none H .refl rel rfl
theorem eo_sm {t : TE} {m : Mo AI} (h : Ei K ct H0 W t m) : Eo K ct H0 W (tPart t) (oSm m) := fun S s σ H Q rel p =>
  h S s σ H _ rel (Pst.bind bO p fun S1 s1 H1 x a st1 rel1 i1 p1 => by
    split at p1
    · rename_i i
      cases rp_int i1
      exact ⟨i, rfl, p1 S1 (some i) H1 .refl rel1 rfl⟩
    · exact False.elim p1)
def cutL {β : Type} (xs : List β) (lo hi : Option Int) : List β := (xs.drop (HT.sIx xs.length 0 lo)).take (HT.sIx xs.length xs.length hi - HT.sIx xs.length 0 lo)
def fSl (s : Stt) (a : AI) (lo hi : Option Int) : Ro AI := match a with
  | .val (.str x) => if x.length ≤ sizeLine then .ok (.val (.str (cutS x lo hi))) s else .no
  | a => match viewL s a with
    | some l => .ok (.new (.lst (cutL l lo hi))) s
    | none => .no
def mSl (m : Mo AI) (ml mh : Mo (Option Int)) : Mo AI := fun s => (m s).bind fun a s1 => (ml s1).bind fun l s2 => (mh s2).bind fun h s3 => fSl s3 a l h
theorem ei_sl {te : TE} {tl th : TO} {m : Mo AI} {ml mh : Mo (Option Int)} (h1 : Ei K ct H0 W te m) (h2 : Eo K ct H0 W tl ml) (h3 : Eo K ct H0 W th mh) : Ei K ct H0 W (tSl (rSlZ K) te tl th) (mSl m ml mh) := fun S s σ H Q rel p =>
  h1 S s σ H _ rel (Pst.bind bI p fun S1 s1 H1 x a st1 rel1 i1 p1 => h2 S1 s1 σ H1 _ rel1 (Pst.bind bI p1 fun S2 s2 H2 lo lo' st2 rel2 i2 p2 => h3 S2 s2 σ H2 _ rel2 (Pst.bind bI p2 fun S3 s3 H3 hi hi' st3 rel3 i3 p3 => by
    cases (show lo = lo' from i2); cases (show hi = hi' from i3)
    have i1' := (i1.step st2).step st3
    unfold fSl at p3
    split at p3
    · rename_i z
      cases rp_str i1'
      split at p3
      · rename_i hz
        exact .inr ⟨z, rfl, hz, p3.val rel3 (.str _)⟩
      · exact False.elim p3
    · split at p3
      · rename_i l e
        obtain ⟨q, vs, rfl, k1, k2⟩ := viewL_ok rel3 i1' e
        refine .inl ⟨q, vs, rfl, k1, fun r hr => p3.newL rel3 hr ?_⟩
        show RpL _ _ _ _ ((vs.drop (HT.sIx vs.length 0 lo)).take (HT.sIx vs.length vs.length hi - HT.sIx vs.length 0 lo)) _
        rw [k2.length]
        exact (k2.drop _).take _
      · exact False.elim p3)))
/-! ## builtins that read -/
def JB (K : PySem.W.Frag) (ct : Ct) (H0 : Hp) (r : List V → Hp → VK → Prop) (f : Stt → List AI → Ro AI) : Prop := ∀ W S s σ H Hs vs as Q, Rel K ct H0 S s σ H → AsOk K ct Hs S s σ H vs as → Pst K ct H0 (RI K ct) W S s σ H Q (f s as) → r vs H Q
def mCB (f : Stt → List AI → Ro AI) (m : Mo (List AI)) : Mo AI := fun s => (m s).bind fun as s1 => f s1 as
theorem ei_cb {r : List V → Hp → VK → Prop} {f : Stt → List AI → Ro AI} {t : TA} {m : Mo (List AI)} (hr : JB K ct H0 r f) (h : EaL K ct H0 W t m) : Ei K ct H0 W (tCB r t) (mCB f m) := fun S s σ H Q rel p =>
  h S s σ H _ rel (Pst.bind bI p fun S1 s1 H1 x a st1 rel1 i1 p1 => hr W S1 s1 σ H1 _ x a Q rel1 i1 p1)
def lenD (M : List Cn) : D → Option Nat
  | .str x => if x.length ≤ sizeLine then some x.length else none
  | .tup l => some l.length
  | .ctp l => some l.length
  | .lst l => some l.length
  | .clst l => some l.length
  | .dK l => some l.length
  | .cid k => M[k]?.bind fun c => match c with
    | .lst l => some l.length
    | .dK l => some l.length
    | _ => none
  | _ => none
def fLen (s : Stt) (as : List AI) : Ro AI := match as with
  | [a] => match (look s a).bind (lenD s.M) with
    | some n => .ok (.val (.int (n : Int))) s
    | none => .no
  | _ => .no
theorem as1 {Hs : Hp} {S : Sh} {s : Stt} {σ : St} {H : Hp} {vs : List V} {a : AI} (h : AsOk K ct Hs S s σ H vs [a]) : ∃ v, vs = [v] ∧ ItOk K ct Hs S s σ H v a := by
  cases h with | cons i r => cases r; exact ⟨_, rfl, i⟩
theorem as2 {Hs : Hp} {S : Sh} {s : Stt} {σ : St} {H : Hp} {vs : List V} {a b : AI} (h : AsOk K ct Hs S s σ H vs [a, b]) : ∃ v w, vs = [v, w] ∧ ItOk K ct Hs S s σ H v a ∧ ItOk K ct Hs S s σ H w b := by
  cases h with | cons i r => cases r with | cons j r => cases r; exact ⟨_, _, rfl, i, j⟩
theorem len_ok {S : Sh} {s : Stt} {σ : St} {H : Hp} {v : V} {d : D} {n : Nat} {Q : VK} (rel : Rel K ct H0 S s σ H) (r : Rp K (U ct.lk H) S.α s.M.length v d) (e : lenD s.M d = some n) (q : Q (.int n) H) : rLenY K [v] H Q := by
  cases r with
  | str x =>
    have e1 : (if x.length ≤ sizeLine then some x.length else none) = some n := e
    by_cases h : x.length ≤ sizeLine
    · rw [if_pos h] at e1
      cases e1
      exact .inl ⟨_, _, rfl, ⟨h, rfl⟩, q⟩
    · rw [if_neg h] at e1; cases e1
  | tup h r => cases e; exact .inl ⟨_, _, rfl, .inr ⟨_, .of (uP' h), r.length.symm⟩, q⟩
  | ctp h r => cases e; exact .inl ⟨_, _, rfl, .inr ⟨_, uSqT h, r.length.symm⟩, q⟩
  | lst h r => cases e; exact .inl ⟨_, _, rfl, .inl ⟨_, .of (uL' h), r.length.symm⟩, q⟩
  | clst h r => cases e; exact .inl ⟨_, _, rfl, .inl ⟨_, uSqL h, r.length.symm⟩, q⟩
  | dK h e1 r => cases e; exact .inr ⟨_, _, rfl, uK' h, by rw [(RpK.of e1 r).len]; exact q⟩
  | non => cases e
  | bl _ => cases e
  | int _ => cases e
  | dT h e1 r => cases e
  | ty m => cases e
  | @cid k h =>
    obtain ⟨c, qc, e1⟩ := Option.bind_eq_some_iff.mp e
    have hh := (rel.ids k c qc).2
    cases c with
    | lst l => cases e1; obtain ⟨vs, h1, h2⟩ := hh; exact .inl ⟨_, _, rfl, .inl ⟨_, .of h1, h2.length.symm⟩, q⟩
    | dK l => cases e1; obtain ⟨vs, h1, h3, h2⟩ := hh; exact .inr ⟨_, _, rfl, .inl h1, by rw [(RpK.of h3 h2).len]; exact q⟩
    | dT l => cases e1
    | obj c fs => cases e1
theorem jb_len : JB K ct H0 (rLenY K) fLen := fun W S s σ H Hs vs as Q rel ia p => by
  unfold fLen at p
  split at p
  · rename_i a
    obtain ⟨v, rfl, i⟩ := as1 ia
    split at p
    · rename_i n e
      obtain ⟨d, e1, e2⟩ := Option.bind_eq_some_iff.mp e
      exact len_ok rel (look_ok rel i e1) e2 (p.val rel (.int _))
    · exact False.elim p
  · exact False.elim p
/-- a list of whole numbers, of truth values -/
def intsD : List D → Option (List Int)
  | [] => some []
  | .int i :: l => (intsD l).map (i :: ·)
  | _ :: _ => none
def blsD : List D → Option (List Bool)
  | [] => some []
  | .bl i :: l => (blsD l).map (i :: ·)
  | _ :: _ => none
section
variable {G : Hp} {α : Nat → Addr} {n : Nat}
theorem ints_rp : ∀ {l : List D} {vs : List V} {ns : List Int}, RpL K G α n vs l → intsD l = some ns → vs = ns.map V.int
  | [], _, _, .nil, e => by cases e; rfl
  | .int i :: l, _, ns, .cons h r, e => by
    obtain ⟨ms, q, rfl⟩ := Option.map_eq_some_iff.mp (show (intsD l).map (i :: ·) = some ns from e)
    rw [rp_int h, ints_rp r q]; rfl
  | .non :: _, _, _, _, e => by cases e
  | .bl _ :: _, _, _, _, e => by cases e
  | .str _ :: _, _, _, _, e => by cases e
  | .tup _ :: _, _, _, _, e => by cases e
  | .ctp _ :: _, _, _, _, e => by cases e
  | .lst _ :: _, _, _, _, e => by cases e
  | .clst _ :: _, _, _, _, e => by cases e
  | .dK _ :: _, _, _, _, e => by cases e
  | .dT _ :: _, _, _, _, e => by cases e
  | .cid _ :: _, _, _, _, e => by cases e
  | .ty _ :: _, _, _, _, e => by cases e
theorem bls_rp : ∀ {l : List D} {vs : List V} {ns : List Bool}, RpL K G α n vs l → blsD l = some ns → vs = ns.map V.bl
  | [], _, _, .nil, e => by cases e; rfl
  | .bl i :: l, _, ns, .cons h r, e => by
    obtain ⟨ms, q, rfl⟩ := Option.map_eq_some_iff.mp (show (blsD l).map (i :: ·) = some ns from e)
    rw [rp_bl h, bls_rp r q]; rfl
  | .non :: _, _, _, _, e => by cases e
  | .int _ :: _, _, _, _, e => by cases e
  | .str _ :: _, _, _, _, e => by cases e
  | .tup _ :: _, _, _, _, e => by cases e
  | .ctp _ :: _, _, _, _, e => by cases e
  | .lst _ :: _, _, _, _, e => by cases e
  | .clst _ :: _, _, _, _, e => by cases e
  | .dK _ :: _, _, _, _, e => by cases e
  | .dT _ :: _, _, _, _, e => by cases e
  | .cid _ :: _, _, _, _, e => by cases e
  | .ty _ :: _, _, _, _, e => by cases e
end
/-- a builtin of one list of whole numbers, of truth values -/
def fInts (g : List Int → Option D) (s : Stt) (as : List AI) : Ro AI := match as with
  | [a] => match ((viewL s a).bind intsD).bind g with
    | some d => .ok (.val d) s
    | none => .no
  | _ => .no
def fBls (g : List Bool → D) (s : Stt) (as : List AI) : Ro AI := match as with
  | [a] => match (viewL s a).bind blsD with
    | some bs => .ok (.val (g bs)) s
    | none => .no
  | _ => .no
def gSum (ns : List Int) : Option D := some (.int ns.sum)
def gMax : List Int → Option D
  | [] => none
  | n :: ns => some (.int (ns.foldl max n))
def gMin : List Int → Option D
  | [] => none
  | n :: ns => some (.int (ns.foldl min n))
theorem fInts_ok {g : List Int → Option D} {S : Sh} {s : Stt} {σ : St} {H Hs : Hp} {vs : List V} {as : List AI} {Q : VK} (rel : Rel K ct H0 S s σ H) (ia : AsOk K ct Hs S s σ H vs as) (p : Pst K ct H0 (RI K ct) W S s σ H Q (fInts g s as)) :
    ∃ q ns d, vs = [.ref q] ∧ SqL K H q (ns.map V.int) ∧ g ns = some d ∧ Pst K ct H0 (RI K ct) W S s σ H Q (.ok (.val d) s) := by
  unfold fInts at p
  split at p
  · rename_i a
    obtain ⟨v, rfl, i⟩ := as1 ia
    split at p
    · rename_i d e
      obtain ⟨ns, e1, e2⟩ := Option.bind_eq_some_iff.mp e
      obtain ⟨l, e0, e1⟩ := Option.bind_eq_some_iff.mp e1
      obtain ⟨q, us, rfl, k1, k2⟩ := viewL_ok rel i e0
      rw [ints_rp k2 e1] at k1
      exact ⟨q, ns, d, rfl, k1, e2, p⟩
    · exact False.elim p
  · exact False.elim p
theorem jb_sum : JB K ct H0 (rSum K) (fInts gSum) := fun W S s σ H Hs vs as Q rel ia p => by
  obtain ⟨q, ns, d, rfl, h, e, p⟩ := fInts_ok rel ia p
  cases e
  exact ⟨q, ns, rfl, h, p.val rel (.int _)⟩
theorem fold_max (n : Int) (ns : List Int) : ns.foldl max n ∈ n :: ns ∧ ∀ y ∈ n :: ns, y ≤ ns.foldl max n := by
  induction ns generalizing n with
  | nil => exact ⟨by simp, fun y hy => by simp at hy; rw [hy]; exact Int.le_refl _⟩
  | cons m ms ih =>
    obtain ⟨h1, h2⟩ := ih (max n m)
    have hm := h2 (max n m) (by simp)
    refine ⟨?_, fun y hy => ?_⟩
    · show ms.foldl max (max n m) ∈ _
      rcases List.mem_cons.mp h1 with e | e
      · rw [e]
        by_cases l : n ≤ m
        · rw [Int.max_eq_right l]; simp
        · rw [Int.max_eq_left (by omega)]; simp
      · simp [e]
    · show y ≤ ms.foldl max (max n m)
      rcases List.mem_cons.mp hy with rfl | hy
      · omega
      · rcases List.mem_cons.mp hy with rfl | hy
        · omega
        · exact h2 y (by simp [hy])
theorem fold_min (n : Int) (ns : List Int) : ns.foldl min n ∈ n :: ns ∧ ∀ y ∈ n :: ns, ns.foldl min n ≤ y := by
  induction ns generalizing n with
  | nil => exact ⟨by simp, fun y hy => by simp at hy; rw [hy]; exact Int.le_refl _⟩
  | cons m ms ih =>
    obtain ⟨h1, h2⟩ := ih (min n m)
    have hm := h2 (min n m) (by simp)
    refine ⟨?_, fun y hy => ?_⟩
    · show ms.foldl min (min n m) ∈ _
      rcases List.mem_cons.mp h1 with e | e
      · rw [e]
        by_cases l : n ≤ m
        · rw [Int.min_eq_left l]; simp
        · rw [Int.min_eq_right (by omega)]; simp
      · simp [e]
    · show ms.foldl min (min n m) ≤ y
      rcases List.mem_cons.mp hy with rfl | hy
      · omega
      · rcases List.mem_cons.mp hy with rfl | hy
        · omega
        · exact h2 y (by simp [hy])
theorem ext_max {ns : List Int} {a b : Int} (ha : a ∈ ns) (h1 : ∀ y ∈ ns, y ≤ a) (hb : b ∈ ns) (h2 : ∀ y ∈ ns, y ≤ b) : a = b := by
  have := h1 b hb; have := h2 a ha; omega
theorem jb_max : JB K ct H0 (rMax K) (fInts gMax) := fun W S s σ H Hs vs as Q rel ia p => by
  obtain ⟨q, ns, d, rfl, h, e, p⟩ := fInts_ok rel ia p
  cases ns with
  | nil => cases e
  | cons n ns =>
    cases e
    refine ⟨q, n :: ns, rfl, h, by simp, fun m hm k => ?_⟩
    have h2 := fold_max n ns
    have e : m = ns.foldl max n := by have := k _ h2.1; have := h2.2 m hm; omega
    rw [e]; exact p.val rel (.int _)
theorem jb_min : JB K ct H0 (rMin K) (fInts gMin) := fun W S s σ H Hs vs as Q rel ia p => by
  obtain ⟨q, ns, d, rfl, h, e, p⟩ := fInts_ok rel ia p
  cases ns with
  | nil => cases e
  | cons n ns =>
    cases e
    refine ⟨q, n :: ns, rfl, h, by simp, fun m hm k => ?_⟩
    have h2 := fold_min n ns
    have e : m = ns.foldl min n := by have := k _ h2.1; have := h2.2 m hm; omega
    rw [e]; exact p.val rel (.int _)
theorem fBls_ok {g : List Bool → D} {S : Sh} {s : Stt} {σ : St} {H Hs : Hp} {vs : List V} {as : List AI} {Q : VK} (rel : Rel K ct H0 S s σ H) (ia : AsOk K ct Hs S s σ H vs as) (p : Pst K ct H0 (RI K ct) W S s σ H Q (fBls g s as)) :
    ∃ q bs, vs = [.ref q] ∧ SqL K H q (bs.map V.bl) ∧ Pst K ct H0 (RI K ct) W S s σ H Q (.ok (.val (g bs)) s) := by
  unfold fBls at p
  split at p
  · rename_i a
    obtain ⟨v, rfl, i⟩ := as1 ia
    split at p
    · rename_i bs e
      obtain ⟨l, e0, e1⟩ := Option.bind_eq_some_iff.mp e
      obtain ⟨q, us, rfl, k1, k2⟩ := viewL_ok rel i e0
      rw [bls_rp k2 e1] at k1
      exact ⟨q, bs, rfl, k1, p⟩
    · exact False.elim p
  · exact False.elim p
theorem jb_all : JB K ct H0 (rAll K) (fBls fun bs => .bl (bs.all id)) := fun W S s σ H Hs vs as Q rel ia p => by
  obtain ⟨q, ns, rfl, h, p⟩ := fBls_ok rel ia p
  exact ⟨q, ns, rfl, h, p.val rel (.bl _)⟩
theorem jb_any : JB K ct H0 (rAny K) (fBls fun bs => .bl (bs.any id)) := fun W S s σ H Hs vs as Q rel ia p => by
  obtain ⟨q, ns, rfl, h, p⟩ := fBls_ok rel ia p
  exact ⟨q, ns, rfl, h, p.val rel (.bl _)⟩
def fI2 (g : Int → Int → Int) (s : Stt) (as : List AI) : Ro AI := match as with
  | [.val (.int i), .val (.int j)] => .ok (.val (.int (g i j))) s
  | _ => .no
theorem jb_min2 : JB K ct H0 rMin2 (fI2 min) := fun W S s σ H Hs vs as Q rel ia p => by
  unfold fI2 at p
  split at p
  · rename_i i j
    obtain ⟨v, w, rfl, h1, h2⟩ := as2 ia
    cases rp_int h1; cases rp_int h2
    exact z_min2 (p.val rel (.int _))
  · exact False.elim p
theorem jb_max2 : JB K ct H0 rMax2 (fI2 max) := fun W S s σ H Hs vs as Q rel ia p => by
  unfold fI2 at p
  split at p
  · rename_i i j
    obtain ⟨v, w, rfl, h1, h2⟩ := as2 ia
    cases rp_int h1; cases rp_int h2
    exact z_max2 (p.val rel (.int _))
  · exact False.elim p
/-- list(x) -/
def fList (s : Stt) (as : List AI) : Ro AI := match as with
  | [a] => match viewL s a with
    | some l => .ok (.new (.lst l)) s
    | none => match viewT s a with
      | some l => .ok (.new (.lst l)) s
      | none => .no
  | _ => .no
theorem jb_list : JB K ct H0 (rListOf K) fList := fun W S s σ H Hs vs as Q rel ia p => by
  unfold fList at p
  split at p
  · rename_i a
    obtain ⟨v, rfl, i⟩ := as1 ia
    split at p
    · rename_i l e
      obtain ⟨q, us, rfl, k1, k2⟩ := viewL_ok rel i e
      exact ⟨q, us, rfl, .inl k1, fun r hr => p.newL rel hr k2⟩
    · split at p
      · rename_i l e
        obtain ⟨q, us, rfl, k1, k2⟩ := viewT_ok rel i e
        exact ⟨q, us, rfl, .inr k1, fun r hr => p.newL rel hr k2⟩
      · exact False.elim p
  · exact False.elim p
/-- isinstance -/
def kindD (M : List Cn) : D → Option String
  | .non => some "NoneType"
  | .bl _ => some "bool"
  | .int _ => some "int"
  | .str _ => some "str"
  | .tup _ => some "tuple"
  | .lst _ => some "list"
  | .dK _ => some "dict"
  | .cid k => M[k]?.bind fun c => match c with
    | .lst _ => some "list"
    | .dK _ => some "dict"
    | _ => none
  | _ => none
def fIsi (s : Stt) (as : List AI) : Ro AI := match as with
  | [a, .val (.ty m)] => match ((look s a).bind (kindD s.M)).bind fun n => kitB n m with
    | some b => .ok (.val (.bl b)) s
    | none => .no
  | _ => .no
theorem kind_ok {S : Sh} {s : Stt} {σ : St} {H : Hp} {v : V} {d : D} {n : String} (rel : Rel K ct H0 S s σ H) (r : Rp K (U ct.lk H) S.α s.M.length v d) (e : kindD s.M d = some n) : TyX K H v (.type n) := by
  cases r with
  | non => cases e; exact .base .non
  | bl b => cases e; exact .base (.bl b)
  | int i => cases e; exact .base (.int i)
  | str x => cases e; exact .base (.str x)
  | tup h r => cases e; exact .base (.tup (uP' h))
  | lst h r => cases e; exact .base (.lst (uL' h))
  | dK h e1 r =>
    cases e
    rcases uK' h with h | ⟨o, h⟩
    · exact .base (.dK h)
    · exact .fDict h
  | ctp h r => cases e
  | clst h r => cases e
  | dT h e1 r => cases e
  | ty m => cases e
  | @cid k h =>
    obtain ⟨c, qc, e1⟩ := Option.bind_eq_some_iff.mp e
    have hh := (rel.ids k c qc).2
    cases c with
    | lst l => cases e1; obtain ⟨vs, h1, h2⟩ := hh; exact .base (.lst h1)
    | dK l => cases e1; obtain ⟨vs, h1, h3, h2⟩ := hh; exact .base (.dK h1)
    | dT l => cases e1
    | obj c fs => cases e1
theorem jb_isi : JB K ct H0 (rIsi K) fIsi := fun W S s σ H Hs vs as Q rel ia p => by
  unfold fIsi at p
  split at p
  · rename_i a m
    obtain ⟨v, w, rfl, h1, h2⟩ := as2 ia
    split at p
    · rename_i b e
      obtain ⟨n, e1, e2⟩ := Option.bind_eq_some_iff.mp e
      obtain ⟨d, e0, e1⟩ := Option.bind_eq_some_iff.mp e1
      have h2' : Rp K S.G S.α s.M.length w (.ty m) := h2
      cases h2'
      exact z_isi (kind_ok rel (look_ok rel h1 e0) e1) (kit_ty e2) (p.val rel (.bl _))
    · exact False.elim p
  · exact False.elim p
end
theorem kb_NoneType_int : kitB "NoneType" "int" = some false := by decide +kernel
theorem kb_NoneType_bool : kitB "NoneType" "bool" = some false := by decide +kernel
theorem kb_NoneType_list : kitB "NoneType" "list" = some false := by decide +kernel
theorem kb_NoneType_tuple : kitB "NoneType" "tuple" = some false := by decide +kernel
theorem kb_NoneType_str : kitB "NoneType" "str" = some false := by decide +kernel
theorem kb_NoneType_dict : kitB "NoneType" "dict" = some false := by decide +kernel
theorem kb_bool_int : kitB "bool" "int" = some true := by decide +kernel
theorem kb_bool_bool : kitB "bool" "bool" = some true := by decide +kernel
theorem kb_bool_list : kitB "bool" "list" = some false := by decide +kernel
theorem kb_bool_tuple : kitB "bool" "tuple" = some false := by decide +kernel
theorem kb_bool_str : kitB "bool" "str" = some false := by decide +kernel
theorem kb_bool_dict : kitB "bool" "dict" = some false := by decide +kernel
theorem kb_int_int : kitB "int" "int" = some true := by decide +kernel
theorem kb_int_bool : kitB "int" "bool" = some false := by decide +kernel
theorem kb_int_list : kitB "int" "list" = some false := by decide +kernel
theorem kb_int_tuple : kitB "int" "tuple" = some false := by decide +kernel
theorem kb_int_str : kitB "int" "str" = some false := by decide +kernel
theorem kb_int_dict : kitB "int" "dict" = some false := by decide +kernel
theorem kb_str_int : kitB "str" "int" = some false := by decide +kernel
theorem kb_str_bool : kitB "str" "bool" = some false := by decide +kernel
theorem kb_str_list : kitB "str" "list" = some false := by decide +kernel
theorem kb_str_tuple : kitB "str" "tuple" = some false := by decide +kernel
theorem kb_str_str : kitB "str" "str" = some true := by decide +kernel
theorem kb_str_dict : kitB "str" "dict" = some false := by decide +kernel
theorem kb_tuple_int : kitB "tuple" "int" = some false := by decide +kernel
theorem kb_tuple_bool : kitB "tuple" "bool" = some false := by decide +kernel
theorem kb_tuple_list : kitB "tuple" "list" = some false := by decide +kernel
theorem kb_tuple_tuple : kitB "tuple" "tuple" = some true := by decide +kernel
theorem kb_tuple_str : kitB "tuple" "str" = some false := by decide +kernel
theorem kb_tuple_dict : kitB "tuple" "dict" = some false := by decide +kernel
theorem kb_list_int : kitB "list" "int" = some false := by decide +kernel
theorem kb_list_bool : kitB "list" "bool" = some false := by decide +kernel
theorem kb_list_list : kitB "list" "list" = some true := by decide +kernel
theorem kb_list_tuple : kitB "list" "tuple" = some false := by decide +kernel
theorem kb_list_str : kitB "list" "str" = some false := by decide +kernel
theorem kb_list_dict : kitB "list" "dict" = some false := by decide +kernel
theorem kb_dict_int : kitB "dict" "int" = some false := by decide +kernel
theorem kb_dict_bool : kitB "dict" "bool" = some false := by decide +kernel
theorem kb_dict_list : kitB "dict" "list" = some false := by decide +kernel
theorem kb_dict_tuple : kitB "dict" "tuple" = some false := by decide +kernel
theorem kb_dict_str : kitB "dict" "str" = some false := by decide +kernel
theorem kb_dict_dict : kitB "dict" "dict" = some true := by decide +kernel
section
variable {K : PySem.W.Frag} {ct : Ct} {H0 : Hp} {W : WX}
/-! ## in, not in -/
def inOf (s : Stt) (a b : AI) : Option Bool := match a, b with
  | .val (.str i), .val (.str j) => some (!(Builtin.Str.occurrences j i 0 j.length 1).isEmpty)
  | a, b => match viewD s b with
    | some l => match a with
      | .val (.int i) => some (vl l (.inl i)).isSome
      | .val (.str x) => some (vl l (.inr x)).isSome
      | _ => none
    | none => match pyOf s a, pyOf s b with
      | some d, some (.list ds) => if SeqAt.shaped d && SeqAt.shaped (.list ds) then some (ds.any fun z => PyData.eqv z d) else none
      | _, _ => none
def fIn : Stt → AI → AI → Ro AI := fun s a b => match inOf s a b with
  | some k => .ok (.val (.bl k)) s
  | none => .no
def fNin : Stt → AI → AI → Ro AI := fun s a b => match inOf s a b with
  | some k => .ok (.val (.bl (!k))) s
  | none => .no
theorem viewD_ok {S : Sh} {s : Stt} {σ : St} {H Hs : Hp} {v : V} {a : AI} {l : List (Key × D)} (r : Rel K ct H0 S s σ H) (i : ItOk K ct Hs S s σ H v a) (e : viewD s a = some l) : ∃ p kvs, v = .ref p ∧ Rd H p (.dK kvs) ∧ RpK K S.G S.α s.M.length kvs l := by
  have frz : ∀ {u : V} {d : D}, Rp K S.G S.α s.M.length u d → dictOf s.M d = some l → ∃ p kvs, u = .ref p ∧ Rd H p (.dK kvs) ∧ RpK K S.G S.α s.M.length kvs l := fun {u d} h e => by
    cases d with
    | dK l' => cases e; cases h with | dK h1 h3 h2 => exact ⟨_, _, rfl, uK' (r.sub _ _ h1), .of h3 h2⟩
    | cid k =>
      cases h
      obtain ⟨c, q, e1⟩ := Option.bind_eq_some_iff.mp (show s.M[k]?.bind Cn.aK = some l from e)
      cases c with
      | dK l' =>
        cases e1
        obtain ⟨vs, h1, h3, h2⟩ := (r.ids k _ q).2
        exact ⟨_, vs, rfl, .inl h1, .of h3 h2⟩
      | _ => cases e1
    | _ => cases e
  have own : ∀ {p : Addr} {c : Cn}, CnOk K ct S s.M.length H p c → dictOf s.M c.toD = some l → ∃ q kvs, V.ref p = .ref q ∧ Rd H q (.dK kvs) ∧ RpK K S.G S.α s.M.length kvs l := fun {p c} h e => by
    cases c with
    | dK l' => cases e; obtain ⟨vs, h1, h3, h2⟩ := h; exact ⟨p, vs, rfl, .inl h1, .of h3 h2⟩
    | lst l' => cases e
    | dT l' => cases e
    | obj _ _ => cases e
  unfold viewD at e
  cases a with
  | val d => exact frz i e
  | new c =>
    obtain ⟨p, rfl, _, _, _, hc, h5⟩ := i
    exact own h5 e
  | slot j =>
    obtain ⟨d, q0, e⟩ := Option.bind_eq_some_iff.mp e
    obtain ⟨en, q1, rfl⟩ := Option.map_eq_some_iff.mp q0
    have q := entAt_eq q1
    have hi : σ[j]? = some (some v) := i
    have hh := r.slot j en q
    cases en with
    | fz d =>
      obtain ⟨v', h1, h2⟩ := hh
      rw [hi] at h1; cases h1
      exact frz h2 e
    | xn x => exact (entAt_xn q1).elim
    | ow c =>
      obtain ⟨p, h1, _, _, hc, h5⟩ := hh
      rw [hi] at h1; cases h1
      exact own h5 e
theorem dget_ok {S : Sh} {n : Nat} {H : Hp} {p : Addr} {kvs : List (Key × V)} {l : List (Key × D)} {k : Key} (h : Rd H p (.dK kvs)) (r : RpK K S.G S.α n kvs l) :
    (vl l k = none ∧ DGet H p (kV k) none) ∨ ∃ v d, vl l k = some d ∧ DGet H p (kV k) (some v) ∧ Rp K S.G S.α n v d := by
  have g : DGet H p (kV k) (valV kvs k) := .inl ⟨kvs, k, h, rfl, rfl⟩
  rcases r.get (k := k) with ⟨h1, h2⟩ | ⟨v, d, h1, h2, h3⟩
  · rw [h2] at g; exact .inl ⟨h1, g⟩
  · rw [h2] at g; exact .inr ⟨v, d, h1, g, h3⟩
theorem in_ok {S : Sh} {s : Stt} {σ : St} {H Hs Hs' : Hp} {v w : V} {a b : AI} {k : Bool} {Q : VK} (g : Bool → Bool) (rel : Rel K ct H0 S s σ H) (i : ItOk K ct Hs S s σ H v a) (j : ItOk K ct Hs' S s σ H w b) (e : inOf s a b = some k) (q : Q (.bl (g k)) H) :
    (∃ d ds, Dp K H v d ∧ Dp K H w (.list ds) ∧ SeqAt.shaped d = true ∧ SeqAt.shaped (.list ds) = true ∧ Q (.bl (g (ds.any fun z => PyData.eqv z d))) H) ∨ rSIn g v w H Q ∨ rDIn g v w H Q := by
  unfold inOf at e
  split at e
  · rename_i x y
    cases rp_str i; cases rp_str j; cases e
    exact .inr (.inl ⟨x, y, rfl, rfl, q⟩)
  · split at e
    · rename_i l e1
      obtain ⟨p, kvs, rfl, h1, h2⟩ := viewD_ok rel j e1
      split at e
      · rename_i x _
        cases rp_int i; cases e
        rcases dget_ok (k := Sum.inl x) h1 h2 with ⟨h3, h4⟩ | ⟨v, d, h3, h4, h5⟩
        · rw [h3] at q; exact .inr (.inr ⟨p, _, rfl, h4, q⟩)
        · rw [h3] at q; exact .inr (.inr ⟨p, _, rfl, h4, q⟩)
      · rename_i x _
        cases rp_str i; cases e
        rcases dget_ok (k := Sum.inr x) h1 h2 with ⟨h3, h4⟩ | ⟨v, d, h3, h4, h5⟩
        · rw [h3] at q; exact .inr (.inr ⟨p, _, rfl, h4, q⟩)
        · rw [h3] at q; exact .inr (.inr ⟨p, _, rfl, h4, q⟩)
      · cases e
    · split at e
      · rename_i d ds e1 e2
        split at e
        · rename_i h
          rw [Bool.and_eq_true] at h
          cases e
          exact .inl ⟨d, ds, pyOf_ok rel i e1, pyOf_ok rel j e2, h.1, h.2, q⟩
        · cases e
      · cases e
theorem j_in : J2 K ct H0 (rInY K) fIn := fun W S s σ H Hs Hs' x y a b Q rel ia ib p => by
  unfold fIn at p
  split at p
  · rename_i k e
    rcases in_ok id rel ia ib e (p.val rel (.bl _)) with h | h | h
    · exact .inl (.inl (.inl h))
    · exact .inl (.inr h)
    · exact .inr h
  · exact False.elim p
theorem j_nin : J2 K ct H0 (rNinY K) fNin := fun W S s σ H Hs Hs' x y a b Q rel ia ib p => by
  unfold fNin at p
  split at p
  · rename_i k e
    rcases in_ok not rel ia ib e (p.val rel (.bl _)) with h | h | h
    · exact .inl (.inl (.inl h))
    · exact .inl (.inr h)
    · exact .inr h
  · exact False.elim p
/-- an item of a dict, too -/
def fIxY : Stt → AI → AI → Ro AI := fun s a b => match viewD s a with
  | some l => match b with
    | .val (.int i) => match vl l (.inl i) with
      | some d => .ok (.val d) s
      | none => .no
    | .val (.str x) => match vl l (.inr x) with
      | some d => .ok (.val d) s
      | none => .no
    | _ => .no
  | none => fIx s a b
theorem j_ixY : J2 K ct H0 (rIxY K) fIxY := fun W S s σ H Hs Hs' x y a b Q rel ia ib p => by
  unfold fIxY at p
  split at p
  · rename_i l e1
    obtain ⟨q, kvs, rfl, h1, h2⟩ := viewD_ok rel ia e1
    split at p
    · rename_i i
      cases rp_int ib
      split at p
      · rename_i d e
        rcases dget_ok (k := Sum.inl i) h1 h2 with ⟨h3, h4⟩ | ⟨v, d', h3, h4, h5⟩
        · rw [h3] at e; cases e
        · rw [h3] at e; cases e
          exact .inr ⟨q, v, rfl, h4, p.val rel h5⟩
      · exact False.elim p
    · rename_i i
      cases rp_str ib
      split at p
      · rename_i d e
        rcases dget_ok (k := Sum.inr i) h1 h2 with ⟨h3, h4⟩ | ⟨v, d', h3, h4, h5⟩
        · rw [h3] at e; cases e
        · rw [h3] at e; cases e
          exact .inr ⟨q, v, rfl, h4, p.val rel h5⟩
      · exact False.elim p
    · exact False.elim p
  · exact .inl (j_ix W S s σ H Hs Hs' x y a b Q rel ia ib p)
end
end Y

namespace Y
open PySem L2 Z
section
variable {K : PySem.W.Frag} {ct : Ct} {H0 : Hp} {W : WX} {S : Sh} {s : Stt} {σ : St} {H : Hp}
/-! ## things that are changed -/
def Ent.own : Ent → Option Cn
  | .ow c => some c
  | .fz _ => none
  | .xn _ => none
def getC (s : Stt) : AI → Option Cn
  | .slot i => (entAt s i).bind Ent.own
  | .val (.cid k) => s.M[k]?
  | _ => none
def setC (s : Stt) (a : AI) (c : Cn) : Stt := match a with
  | .slot i => ⟨s.env.set i (some (.ow c)), s.M⟩
  | .val (.cid k) => ⟨s.env, s.M.set k c⟩
  | _ => s
theorem setC_len {a : AI} {c : Cn} : (setC s a c).M.length = s.M.length := by
  unfold setC
  split
  · rfl
  · exact List.length_set
  · rfl
theorem mut_ok {Hs : Hp} {v : V} {a : AI} {c : Cn} (r : Rel K ct H0 S s σ H) (i : ItOk K ct Hs S s σ H v a) (e : getC s a = some c) :
    ∃ p, v = .ref p ∧ CnOk K ct S s.M.length H p c ∧ ∀ o c', (c.isC = true → c'.isC = true) → CnOk K ct S s.M.length (upd H p o) p c' →
      Rel K ct H0 S (setC s a c') σ (upd H p o) ∧ Stp S s.M.length H S (setC s a c').M.length (upd H p o) := by
  have gen : ∀ (p : Addr) (l : Lab), S.lab p = some l → ∀ o : HO,
      (Same S.G (U ct.lk (upd H p o))) ∧ (∀ a l, S.lab a = some l → S.G a = none ∧ ∃ u, upd H p o a = some u) ∧ (∀ a, upd H p o a = none → H0 a = none) ∧
      (∀ {a : Addr} {c : Cn} {l' : Lab}, S.lab a = some l' → l' ≠ l → CnOk K ct S s.M.length H a c → CnOk K ct S s.M.length (upd H p o) a c) ∧ Stp S s.M.length H S s.M.length (upd H p o) := by
    intro p l hl o
    obtain ⟨hg, u0, hu0⟩ := r.lg p l hl
    refine ⟨fun a u q => ?_, fun a l' q => ?_, fun a q => r.dom a (upd_none.mp q).2, fun {a c l'} q ne h => ?_, ⟨fun _ _ q => q, Nat.le_refl _, fun _ _ => rfl, fun a u q ql => ⟨?_, ql⟩, fun _ _ q => .inl q, fun a q => (upd_none.mp q).2⟩⟩
    · rw [U_ne (fun z => by subst z; rw [hg] at q; cases q)]; exact r.sub a u q
    · obtain ⟨k1, u, k2⟩ := r.lg a l' q
      refine ⟨k1, ?_⟩
      by_cases z : a = p
      · subst z; exact ⟨o, upd_same⟩
      · exact ⟨u, by rw [upd_ne z]; exact k2⟩
    · have z : a ≠ p := fun z => by subst z; rw [hl] at q; cases q; exact ne rfl
      exact h.mono (fun _ _ q => q) (fun _ _ => rfl) (Nat.le_refl _) fun u q => by rw [upd_ne z]; exact q
    · rw [upd_ne (fun z => by subst z; rw [hl] at ql; cases ql)]; exact q
  cases a with
  | new c => cases e
  | slot j =>
    obtain ⟨en, q1, q2⟩ := Option.bind_eq_some_iff.mp e
    cases en with
    | fz d => cases q2
    | xn x => cases q2
    | ow c0 =>
      cases q2
      have q := entAt_eq q1
      obtain ⟨p, h1, h2, h3, h4, h5⟩ := r.slot j _ q
      have hi : σ[j]? = some (some v) := i
      rw [hi] at h1; cases h1
      refine ⟨p, rfl, h5, fun o c' hc hk => ?_⟩
      obtain ⟨g1, g2, g3, g4, g5⟩ := gen p _ h3 o
      refine ⟨⟨g1, g2, g3, ?_, fun m en hm => ?_, fun k cc hk' => ?_⟩, g5⟩
      · show σ.length = (s.env.set j _).length
        rw [List.length_set]; exact r.len
      · have hm1 : (s.env.set j (some (.ow c')))[m]? = some (some en) := hm
        by_cases z : j = m
        · subst z
          have hlt : j < s.env.length := (List.getElem?_eq_some_iff.mp q).1
          rw [List.getElem?_set_self hlt] at hm1
          cases hm1
          exact ⟨p, hi, h2, h3, hc h4, hk⟩
        · rw [List.getElem?_set_ne z] at hm1
          have hh := r.slot m en hm1
          cases en with
          | fz d => exact hh
          | xn x => exact xn_mono (S := S) (n := s.M.length) (H := H) (fun _ _ e => e) (fun _ _ => rfl) (Nat.le_refl _) rfl hh
          | ow c2 =>
            obtain ⟨a, k1, k2, k3, k4, k5⟩ := hh
            exact ⟨a, k1, k2, k3, k4, g4 k3 (fun w => by cases w; exact z rfl) k5⟩
      · obtain ⟨k1, k2⟩ := r.ids k cc hk'
        exact ⟨k1, g4 k1 (fun w => by cases w) k2⟩
  | val d =>
    cases d with
    | cid k =>
      have e1 : s.M[k]? = some c := e
      have i1 : Rp K S.G S.α s.M.length v (.cid k) := i
      cases i1
      obtain ⟨h3, h5⟩ := r.ids k c e1
      refine ⟨_, rfl, h5, fun o c' hc hk => ?_⟩
      obtain ⟨g1, g2, g3, g4, g5⟩ := gen _ _ h3 o
      have hl : (s.M.set k c').length = s.M.length := List.length_set
      refine ⟨⟨g1, g2, g3, r.len, fun m en hm => ?_, fun k' cc hk' => ?_⟩, by show Stp S s.M.length H S (s.M.set k c').length _; rw [hl]; exact g5⟩
      · have hh := r.slot m en hm
        show EntOk K ct H0 S (s.M.set k c').length σ _ m en
        rw [hl]
        cases en with
        | fz d => exact hh
        | xn x => exact xn_mono (S := S) (n := s.M.length) (H := H) (fun _ _ e => e) (fun _ _ => rfl) (Nat.le_refl _) rfl hh
        | ow c2 =>
          obtain ⟨a, k1, k2, k3, k4, k5⟩ := hh
          exact ⟨a, k1, k2, k3, k4, g4 k3 (fun w => by cases w) k5⟩
      · have hk1 : (s.M.set k c')[k']? = some cc := hk'
        show S.lab (S.α k') = some (.id k') ∧ CnOk K ct S (s.M.set k c').length _ (S.α k') cc
        rw [hl]
        by_cases z : k = k'
        · subst z
          have hlt : k < s.M.length := (List.getElem?_eq_some_iff.mp e1).1
          rw [List.getElem?_set_self hlt] at hk1
          cases hk1
          exact ⟨h3, hk⟩
        · rw [List.getElem?_set_ne z] at hk1
          obtain ⟨k1, k2⟩ := r.ids k' cc hk1
          exact ⟨k1, g4 k1 (fun w => by cases w; exact z rfl) k2⟩
    | _ => cases e
/-- a method of a list: the receiver is read, then the values -/
def JM (K : PySem.W.Frag) (ct : Ct) (H0 : Hp) (r : V → List V → Hp → VK → Prop) (f : Stt → AI → List D → Ro AI) : Prop := ∀ W S s σ H Hs x a vs ds Q, Rel K ct H0 S s σ H → ItOk K ct Hs S s σ H x a → RpL K S.G S.α s.M.length vs ds → Pst K ct H0 (RI K ct) W S s σ H Q (f s a ds) → r x vs H Q
def mBM (f : Stt → AI → List D → Ro AI) (mo : Mo AI) (ma : Mo (List D)) : Mo AI := fun s => (mo s).bind fun a s1 => match viewL s1 a with
  | some _ => (ma s1).bind fun ds s2 => f s2 a ds
  | none => .no
theorem ei_bm {r : V → List V → Hp → VK → Prop} {f : Stt → AI → List D → Ro AI} {to : TE} {t : TA} {mo : Mo AI} {ma : Mo (List D)} (hr : JM K ct H0 r f) (ho : Ei K ct H0 W to mo) (ha : EvL K ct H0 W t ma) : Ei K ct H0 W (tBM K "list" r to t) (mBM f mo ma) := fun S s σ H Q rel p =>
  ho S s σ H _ rel (Pst.bind bI p fun S1 s1 H1 x a st1 rel1 i1 p1 => by
    split at p1
    · rename_i l e
      obtain ⟨q, vs, rfl, h1, _⟩ := viewL_ok rel1 i1 e
      exact ⟨.inl ⟨rfl, vs, h1⟩, ha S1 s1 σ H1 _ rel1 (Pst.bind bI p1 fun S2 s2 H2 vs ds st2 rel2 i2 p2 => hr W S2 s2 σ H2 _ _ a vs ds Q rel2 (i1.step st2) i2 p2)⟩
    · exact False.elim p1)
theorem ei_bm0 {r : V → List V → Hp → VK → Prop} {f : Stt → AI → List D → Ro AI} {to : TE} {mo : Mo AI} (hr : JM K ct H0 r f) (ho : Ei K ct H0 W to mo) : Ei K ct H0 W (tBM0 K "list" r to) (mBM f mo vNil) := fun S s σ H Q rel p =>
  ho S s σ H _ rel (Pst.bind bI p fun S1 s1 H1 x a st1 rel1 i1 p1 => by
    split at p1
    · rename_i l e
      obtain ⟨q, vs, rfl, h1, _⟩ := viewL_ok rel1 i1 e
      exact ⟨.inl ⟨rfl, vs, h1⟩, hr W S1 s1 σ H1 _ _ a [] [] Q rel1 i1 .nil p1⟩
    · exact False.elim p1)
def fApp (s : Stt) (a : AI) (ds : List D) : Ro AI := match ds, getC s a with
  | [d], some (.lst l) => if l.length < sizeLine then .ok (.val .non) (setC s a (.lst (l ++ [d]))) else .no
  | _, _ => .no
theorem Pst.mut {a : AI} {c' : Cn} {Q : VK} {H' : Hp} (p : Pst K ct H0 (RI K ct) W S s σ H Q (.ok (.val .non) (setC s a c'))) (h : Rel K ct H0 S (setC s a c') σ H' ∧ Stp S s.M.length H S (setC s a c').M.length H') : Q .non H' := p S .non H' h.2 h.1 .non
theorem jm_app : JM K ct H0 rAppend fApp := fun W S s σ H Hs x a vs ds Q rel i r p => by
  unfold fApp at p
  split at p
  · rename_i d l e
    split at p
    · rename_i hz
      obtain ⟨q, rfl, ⟨us, h1, h2⟩, h3⟩ := mut_ok rel i e
      cases r with
      | cons r1 r2 =>
        cases r2
        exact ⟨q, us, _, rfl, rfl, h1, by rw [h2.length]; exact hz, p.mut (h3 _ (.lst (l ++ [d])) (fun _ => rfl) ⟨_, upd_same, h2.append (.cons r1 .nil)⟩)⟩
    · exact False.elim p
  · exact False.elim p
def fRev (s : Stt) (a : AI) (ds : List D) : Ro AI := match ds, getC s a with
  | [], some (.lst l) => .ok (.val .non) (setC s a (.lst l.reverse))
  | _, _ => .no
theorem jm_rev : JM K ct H0 rReverse fRev := fun W S s σ H Hs x a vs ds Q rel i r p => by
  unfold fRev at p
  split at p
  · rename_i l e
    obtain ⟨q, rfl, ⟨us, h1, h2⟩, h3⟩ := mut_ok rel i e
    cases r
    exact ⟨q, us, rfl, rfl, h1, p.mut (h3 _ (.lst l.reverse) (fun _ => rfl) ⟨_, upd_same, h2.rev⟩)⟩
  · exact False.elim p
def fExt (s : Stt) (a : AI) (ds : List D) : Ro AI := match ds with
  | [d] => match getC s a, listX s.M d with
    | some (.lst l), some l' => if l.length + l'.length ≤ sizeLine then .ok (.val .non) (setC s a (.lst (l ++ l'))) else .no
    | _, _ => .no
  | _ => .no
theorem jm_ext : JM K ct H0 rExtend fExt := fun W S s σ H Hs x a vs ds Q rel i r p => by
  unfold fExt at p
  split at p
  · rename_i d
    split at p
    · rename_i l l' e e2
      split at p
      · rename_i hz
        obtain ⟨q, rfl, ⟨us, h1, h2⟩, h3⟩ := mut_ok rel i e
        cases r with
        | cons r1 r2 =>
          cases r2
          obtain ⟨q2, us2, rfl, k1, k2⟩ := viewX_ok (Hs := H) (a := .val d) rel r1 (show ((look s (.val d)).bind (listX s.M)) = some l' from e2)
          exact ⟨q, q2, us, us2, rfl, rfl, h1, k1, by rw [h2.length, k2.length]; exact hz, p.mut (h3 _ (.lst (l ++ l')) (fun _ => rfl) ⟨_, upd_same, h2.append k2⟩)⟩
      · exact False.elim p
    · exact False.elim p
  · exact False.elim p
/-! ## statements -/
def PstS (K : PySem.W.Frag) (ct : Ct) (H0 : Hp) (W : WX) (S : Sh) (s : Stt) (H : Hp) (Dn : Ends) : Rs → Prop
  | .nx s' => ∀ S' σ' H', Stp S s.M.length H S' s'.M.length H' → Rel K ct H0 S' s' σ' H' → Dn.nx σ' H'
  | .bk s' => ∀ S' σ' H', Stp S s.M.length H S' s'.M.length H' → Rel K ct H0 S' s' σ' H' → Dn.bk σ' H'
  | .ct s' => ∀ S' σ' H', Stp S s.M.length H S' s'.M.length H' → Rel K ct H0 S' s' σ' H' → Dn.ct σ' H'
  | .rt a s' => ∀ S' σ' v H', Stp S s.M.length H S' s'.M.length H' → Rel K ct H0 S' s' σ' H' → ItOk K ct H0 S' s' [] H' v a → Dn.rt v H'
  | .er x s' => ∀ S' σ' H' dd, Stp S s.M.length H S' s'.M.length H' → Rel K ct H0 S' s' σ' H' → XOk K S' s'.M.length H' x dd → W (.ref (ct x.cls)) dd σ' H'
  | .no => False
def Sv (K : PySem.W.Frag) (ct : Ct) (H0 : Hp) (W : WX) (t : TS) (m : Ms) : Prop := ∀ S s σ H Dn, Rel K ct H0 S s σ H → PstS K ct H0 W S s H Dn (m s) → t Dn σ H
theorem PstS.from {S1 : Sh} {s1 : Stt} {H1 : Hp} {Dn : Ends} {r : Rs} (h : PstS K ct H0 W S s H Dn r) (t : Stp S s.M.length H S1 s1.M.length H1) : PstS K ct H0 W S1 s1 H1 Dn r := by
  cases r with
  | nx s' => exact fun S' σ' H' st rel => h S' σ' H' (t.trans st) rel
  | bk s' => exact fun S' σ' H' st rel => h S' σ' H' (t.trans st) rel
  | ct s' => exact fun S' σ' H' st rel => h S' σ' H' (t.trans st) rel
  | rt a s' => exact fun S' σ' v H' st rel => h S' σ' v H' (t.trans st) rel
  | er x s' => exact fun S' σ' H' dd st rel => h S' σ' H' dd (t.trans st) rel
  | no => exact h
/-- an expression's result goes on to a statement's -/
def Ro.toS {α : Type} (r : Ro α) (f : α → Ms) : Rs := match r with
  | .ok a s => f a s
  | .er x s => .er x s
  | .no => .no
theorem PstS.bind {β α : Type} {R : RR β α} {Dn : Ends} {Q1 : β → Hp → Prop} {r : Ro α} {f : α → Ms} (h : PstS K ct H0 W S s H Dn (r.toS f))
    (k : ∀ S1 s1 H1 x a, Stp S s.M.length H S1 s1.M.length H1 → Rel K ct H0 S1 s1 σ H1 → R H S1 s1 σ H1 x a → PstS K ct H0 W S s H Dn (f a s1) → Q1 x H1) : Pst K ct H0 R W S s σ H Q1 r := by
  cases r with
  | ok a s' => exact fun S' x H' st rel q => k S' s' H' x a st rel q h
  | er x s' => exact fun S' H' dd st rel q => h S' σ H' dd st rel q
  | no => exact h
def mSeq (m1 m2 : Ms) : Ms := fun s => match m1 s with
  | .nx s1 => m2 s1
  | r => r
theorem sv_seq {t u : TS} {m1 m2 : Ms} (h1 : Sv K ct H0 W t m1) (h2 : Sv K ct H0 W u m2) : Sv K ct H0 W (tSeq t u) (mSeq m1 m2) := fun S s σ H Dn rel p => h1 S s σ H _ rel (by
  unfold mSeq at p
  cases q : m1 s with
  | nx s1 => rw [q] at p; exact fun S1 σ1 H1 st rel1 => h2 S1 s1 σ1 H1 Dn rel1 (PstS.from p st)
  | bk s1 => rw [q] at p; exact p
  | ct s1 => rw [q] at p; exact p
  | rt a s1 => rw [q] at p; exact p
  | er x s1 => rw [q] at p; exact p
  | no => rw [q] at p; exact p)
def mNext : Ms := fun s => .nx s
theorem sv_next : Sv K ct H0 W tNext mNext := fun S s σ H Dn rel p => p S σ H .refl rel
def mBrk : Ms := fun s => .bk s
theorem sv_brk : Sv K ct H0 W tBreak mBrk := fun S s σ H Dn rel p => p S σ H .refl rel
def mCnt : Ms := fun s => .ct s
theorem sv_cnt : Sv K ct H0 W tCont mCnt := fun S s σ H Dn rel p => p S σ H .refl rel
def mNever : Ms := fun _ => .no
theorem sv_never : Sv K ct H0 W tNever mNever := fun S s σ H Dn rel p => p
def mDrop (m : Mo AI) : Ms := fun s => (m s).toS fun _ s1 => .nx s1
theorem sv_drop {te : TE} {m : Mo AI} (h : Ei K ct H0 W te m) : Sv K ct H0 W (tDrop te) (mDrop m) := fun S s σ H Dn rel p => h S s σ H _ rel (PstS.bind p fun S1 s1 H1 x a st1 rel1 i1 p1 => p1 S1 σ H1 st1 rel1)
def mIfS (c : Mo Bool) (m1 m2 : Ms) : Ms := fun s => (c s).toS fun b s1 => if b = true then m1 s1 else m2 s1
theorem sv_if {c : TT} {t u : TS} {mc : Mo Bool} {m1 m2 : Ms} (hc : Et K ct H0 W c mc) (h1 : Sv K ct H0 W t m1) (h2 : Sv K ct H0 W u m2) : Sv K ct H0 W (tIfS c t u) (mIfS mc m1 m2) := fun S s σ H Dn rel p =>
  hc S s σ H _ rel (PstS.bind p fun S1 s1 H1 x a st1 rel1 i1 p1 => by
    cases (show x = a from i1)
    cases x with
    | true => rw [if_pos rfl] at p1 ⊢; exact h1 S1 s1 σ H1 Dn rel1 (PstS.from p1 st1)
    | false => rw [if_neg Bool.false_ne_true] at p1 ⊢; exact h2 S1 s1 σ H1 Dn rel1 (PstS.from p1 st1))
/-! ### slots -/
def Sh.un (S : Sh) (i : Nat) : Sh := ⟨S.G, S.α, fun a => if S.lab a = some (.slot i) then none else S.lab a⟩
theorem un_lab {i : Nat} {a : Addr} {l : Lab} (h : S.lab a = some l) (ne : l ≠ .slot i) : (S.un i).lab a = some l := by
  show (if S.lab a = some (.slot i) then none else S.lab a) = _
  rw [if_neg (fun z => by rw [h] at z; cases z; exact ne rfl)]; exact h
theorem un_of {i : Nat} {a : Addr} {l : Lab} (h : (S.un i).lab a = some l) : S.lab a = some l := by
  have h1 : (if S.lab a = some (.slot i) then none else S.lab a) = some l := h
  split at h1
  · cases h1
  · exact h1
theorem Stp.un {n : Nat} {i : Nat} : Stp S n H (S.un i) n H := ⟨fun _ _ e => e, Nat.le_refl _, fun _ _ => rfl, fun a o h l => ⟨h, by
  show (if S.lab a = some (.slot i) then none else S.lab a) = none
  split
  · rfl
  · exact l⟩, fun _ _ e => .inl e, fun _ h => h⟩
theorem cn_un {n i : Nat} {p : Addr} {c : Cn} (h : CnOk K ct S n H p c) : CnOk K ct (S.un i) n H p c := h.mono (fun _ _ e => e) (fun _ _ => rfl) (Nat.le_refl _) (fun _ e => e)
/-- slot i is given another value -/
theorem Rel.setFz {i : Nat} {v : V} {d : D} (r : Rel K ct H0 S s σ H) (h : Rp K S.G S.α s.M.length v d) : Rel K ct H0 (S.un i) ⟨s.env.set i (some (.fz d)), s.M⟩ (σ.set i (some v)) H := by
  refine ⟨r.sub, fun a l q => r.lg a l (un_of q), r.dom, by rw [List.length_set]; show _ = (s.env.set i _).length; rw [List.length_set]; exact r.len, fun j en q => ?_, fun k c q => ?_⟩
  · have q1 : (s.env.set i (some (.fz d)))[j]? = some (some en) := q
    by_cases z : i = j
    · subst z
      have hlt : i < s.env.length := by
        have := (List.getElem?_eq_some_iff.mp q1).1
        rw [List.length_set] at this; exact this
      rw [List.getElem?_set_self hlt] at q1
      cases q1
      exact ⟨v, List.getElem?_set_self (by rw [r.len]; exact hlt), h⟩
    · rw [List.getElem?_set_ne z] at q1
      have hh := r.slot j en q1
      cases en with
      | fz d' => obtain ⟨w, k1, k2⟩ := hh; exact ⟨w, by rw [List.getElem?_set_ne z]; exact k1, k2⟩
      | xn x => exact xn_mono (S := S) (n := s.M.length) (H := H) (fun _ _ e => e) (fun _ _ => rfl) (Nat.le_refl _) (List.getElem?_set_ne z) hh
      | ow c =>
        obtain ⟨p, k1, k2, k3, k4, k5⟩ := hh
        exact ⟨p, by rw [List.getElem?_set_ne z]; exact k1, k2, un_lab k3 (fun w => by cases w; exact z rfl), k4, cn_un k5⟩
  · obtain ⟨k1, k2⟩ := r.ids k c q
    exact ⟨un_lab k1 (fun w => by cases w), cn_un k2⟩
theorem Rel.setN {i : Nat} (r : Rel K ct H0 S s σ H) : Rel K ct H0 (S.un i) ⟨s.env.set i none, s.M⟩ σ H := by
  refine ⟨r.sub, fun a l q => r.lg a l (un_of q), r.dom, by show _ = (s.env.set i _).length; rw [List.length_set]; exact r.len, fun j en q => ?_, fun k c q => ?_⟩
  · have q1 : (s.env.set i none)[j]? = some (some en) := q
    by_cases z : i = j
    · subst z
      have hlt : i < s.env.length := by
        have := (List.getElem?_eq_some_iff.mp q1).1
        rw [List.length_set] at this; exact this
      rw [List.getElem?_set_self hlt] at q1
      cases q1
    · rw [List.getElem?_set_ne z] at q1
      have hh := r.slot j en q1
      cases en with
      | fz d' => exact hh
      | xn x => exact xn_mono (S := S) (n := s.M.length) (H := H) (fun _ _ e => e) (fun _ _ => rfl) (Nat.le_refl _) rfl hh
      | ow c =>
        obtain ⟨p, k1, k2, k3, k4, k5⟩ := hh
        exact ⟨p, k1, k2, un_lab k3 (fun w => by cases w; exact z rfl), k4, cn_un k5⟩
  · obtain ⟨k1, k2⟩ := r.ids k c q
    exact ⟨un_lab k1 (fun w => by cases w), cn_un k2⟩
def Sh.cl (S : Sh) (i : Nat) (p : Addr) : Sh := ⟨S.G, S.α, fun a => if a = p then some (.slot i) else if S.lab a = some (.slot i) then none else S.lab a⟩
theorem Rel.setOw {i : Nat} {p : Addr} {c : Cn} (r : Rel K ct H0 S s σ H) (h0 : H0 p = none) (hl : S.lab p = none) (hg : S.G p = none) (hc : c.isC = true) (h : CnOk K ct S s.M.length H p c) : Rel K ct H0 (S.cl i p) ⟨s.env.set i (some (.ow c)), s.M⟩ (σ.set i (some (.ref p))) H := by
  have lb : ∀ {a : Addr} {l : Lab}, S.lab a = some l → l ≠ .slot i → (S.cl i p).lab a = some l := fun {a l} hh ne => by
    show (if a = p then _ else if S.lab a = some (.slot i) then none else S.lab a) = _
    rw [if_neg (fun z => by subst z; rw [hl] at hh; cases hh), if_neg (fun z => by rw [hh] at z; cases z; exact ne rfl)]; exact hh
  have cn : ∀ {a : Addr} {c : Cn}, CnOk K ct S s.M.length H a c → CnOk K ct (S.cl i p) s.M.length H a c := fun {a c} h => h.mono (fun _ _ e => e) (fun _ _ => rfl) (Nat.le_refl _) (fun _ e => e)
  refine ⟨r.sub, fun a l q => ?_, r.dom, by rw [List.length_set]; show _ = (s.env.set i _).length; rw [List.length_set]; exact r.len, fun j en q => ?_, fun k c' q => ?_⟩
  · have q1 : (if a = p then some (Lab.slot i) else if S.lab a = some (.slot i) then none else S.lab a) = some l := q
    by_cases z : a = p
    · subst z; exact ⟨hg, h.some⟩
    · rw [if_neg z] at q1
      split at q1
      · cases q1
      · exact r.lg a l q1
  · have q1 : (s.env.set i (some (.ow c)))[j]? = some (some en) := q
    by_cases z : i = j
    · subst z
      have hlt : i < s.env.length := by
        have := (List.getElem?_eq_some_iff.mp q1).1
        rw [List.length_set] at this; exact this
      rw [List.getElem?_set_self hlt] at q1
      cases q1
      exact ⟨p, List.getElem?_set_self (by rw [r.len]; exact hlt), h0, if_pos rfl, hc, cn h⟩
    · rw [List.getElem?_set_ne z] at q1
      have hh := r.slot j en q1
      cases en with
      | fz d' => obtain ⟨w, k1, k2⟩ := hh; exact ⟨w, by rw [List.getElem?_set_ne z]; exact k1, k2⟩
      | xn x => exact xn_mono (S := S) (n := s.M.length) (H := H) (fun _ _ e => e) (fun _ _ => rfl) (Nat.le_refl _) (List.getElem?_set_ne z) hh
      | ow c' =>
        obtain ⟨a, k1, k2, k3, k4, k5⟩ := hh
        exact ⟨a, by rw [List.getElem?_set_ne z]; exact k1, k2, lb k3 (fun w => by cases w; exact z rfl), k4, cn k5⟩
  · obtain ⟨k1, k2⟩ := r.ids k c' q
    exact ⟨lb k1 (fun w => by cases w), cn k2⟩
theorem Stp.claim {S' : Sh} {n n' i : Nat} {H' : Hp} {p : Addr} (t : Stp S n H S' n' H') (hp : H p = none) : Stp S n H (S'.cl i p) n' H' where
  g := t.g
  le := t.le
  al := t.al
  fr := fun a o h l => by
    obtain ⟨h1, h2⟩ := t.fr a o h l
    refine ⟨h1, ?_⟩
    show (if a = p then _ else if S'.lab a = some (.slot i) then none else S'.lab a) = none
    rw [if_neg (ne_of_none h hp)]
    split
    · rfl
    · exact h2
  gn := t.gn
  dom := t.dom
def asg (i : Nat) (a : AI) : Ms := fun s => match a with
  | .val d => .nx ⟨s.env.set i (some (.fz d)), s.M⟩
  | .new c => .nx ⟨s.env.set i (some (.ow c)), s.M⟩
  | .slot j => (toV (.slot j) s).toS fun d s1 => .nx ⟨s1.env.set i (some (.fz d)), s1.M⟩
def mAsg (i : Nat) (m : Mo AI) : Ms := fun s => (m s).toS (asg i)
theorem sv_asg {i : Nat} {te : TE} {m : Mo AI} (h : Ei K ct H0 W te m) : Sv K ct H0 W (tAsg te (gName i)) (mAsg i m) := fun S s σ H Dn rel p =>
  h S s σ H _ rel (PstS.bind p fun S1 s1 H1 x a st1 rel1 i1 p1 => by
    show Dn.nx (σ.set i (some x)) H1
    cases a with
    | val d => exact p1 (S1.un i) _ H1 (st1.trans .un) (rel1.setFz i1)
    | new c =>
      obtain ⟨q, rfl, h1, h2, h3, h4, h5⟩ := i1
      exact p1 (S1.cl i q) _ H1 (st1.claim h1) (rel1.setOw (rel.dom q h1) h2 h3 h4 h5)
    | slot j =>
      have hi : σ[j]? = some (some x) := i1
      have p1 : PstS K ct H0 W S s H Dn ((match entAt s1 j with | some (.ow c) => Ro.ok c.toD ⟨s1.env.set j (some (.fz c.toD)), s1.M⟩ | some (.fz d) => Ro.ok d s1 | _ => Ro.no).toS fun d s1 => .nx ⟨s1.env.set i (some (.fz d)), s1.M⟩) := p1
      cases qe : entAt s1 j with
      | none => rw [qe] at p1; exact False.elim p1
      | some en =>
        rw [qe] at p1
        cases en with
        | fz d =>
          obtain ⟨v', k1, k2⟩ := rel1.slot j _ (entAt_eq qe)
          rw [hi] at k1; cases k1
          exact p1 (S1.un i) _ H1 (st1.trans .un) (rel1.setFz k2)
        | xn x => exact False.elim p1
        | ow c =>
          obtain ⟨S2, v', k1, st2, rel2, k2⟩ := frz_slot rel1 (entAt_eq qe)
          rw [hi] at k1; cases k1
          exact p1 (S2.un i) _ H1 ((st1.trans st2).trans .un) (rel2.setFz k2))
def ret (a : AI) : Ms := fun s => match a with
  | .val d => .rt (.val d) s
  | .new c => .rt (.new c) s
  | .slot i => match entAt s i with
    | some (.ow c) => .rt (.new c) ⟨s.env.set i none, s.M⟩
    | some (.fz d) => .rt (.val d) s
    | _ => .no
def mRet (m : Mo AI) : Ms := fun s => (m s).toS ret
theorem sv_ret {te : TE} {m : Mo AI} (h : Ei K ct H0 W te m) : Sv K ct H0 W (tRet te) (mRet m) := fun S s σ H Dn rel p =>
  h S s σ H _ rel (PstS.bind p fun S1 s1 H1 x a st1 rel1 i1 p1 => by
    cases a with
    | val d => exact p1 S1 σ x H1 st1 rel1 i1
    | new c =>
      obtain ⟨q, rfl, h1, h2, h3, h4, h5⟩ := i1
      exact p1 S1 σ _ H1 st1 rel1 ⟨q, rfl, rel.dom q h1, h2, h3, h4, h5⟩
    | slot j =>
      have hi : σ[j]? = some (some x) := i1
      have p1 : PstS K ct H0 W S s H Dn (match entAt s1 j with | some (.ow c) => .rt (.new c) ⟨s1.env.set j none, s1.M⟩ | some (.fz d) => .rt (.val d) s1 | _ => .no) := p1
      cases qe : entAt s1 j with
      | none => rw [qe] at p1; exact False.elim p1
      | some en =>
        rw [qe] at p1
        cases en with
        | fz d =>
          obtain ⟨v', k1, k2⟩ := rel1.slot j _ (entAt_eq qe)
          rw [hi] at k1; cases k1
          exact p1 S1 σ x H1 st1 rel1 k2
        | xn x => exact False.elim p1
        | ow c =>
          obtain ⟨q, k1, k2, k3, k4, k5⟩ := rel1.slot j _ (entAt_eq qe)
          rw [hi] at k1; cases k1
          refine p1 (S1.un j) σ _ H1 (st1.trans .un) rel1.setN ⟨q, rfl, k2, ?_, (rel1.lg q _ k3).1, k4, cn_un k5⟩
          show (if S1.lab q = some (.slot j) then none else S1.lab q) = none
          rw [if_pos k3])
def mRetN : Ms := fun s => .rt (.val .non) s
theorem sv_retN : Sv K ct H0 W tRetN mRetN := fun S s σ H Dn rel p => p S σ .non H .refl rel .non
end
end Y

namespace Y
open PySem L2 Z
/-! ## targets -/
abbrev Tg := D → Stt → Option Stt
abbrev Tgs := List D → Stt → Option Stt
/-- what of the slots is left when some are wiped -/
def Keeps (js : List Nat) (σ σ' : St) : Prop := ∀ ws : List Nat, (∀ j ∈ js, j ∈ ws) → wipe σ' ws = wipe σ ws
theorem wipe_in {σ : St} {i : Nat} : ∀ {vs : List Nat}, i ∈ vs → i < σ.length → (wipe σ vs)[i]? = some none
  | v :: vs, h, hl => by
    show ((wipe σ vs).set v none)[i]? = _
    by_cases e : v = i
    · subst e; rw [List.getElem?_set_self (by rw [wipe_length]; exact hl)]
    · rw [List.getElem?_set_ne e]
      rcases List.mem_cons.mp h with z | z
      · exact absurd z.symm e
      · exact wipe_in z hl
theorem keeps_set {σ : St} {i : Nat} {x : Option V} : Keeps [i] σ (σ.set i x) := fun ws h => by
  refine List.ext_getElem? fun k => ?_
  by_cases hk : k ∈ ws
  · by_cases hl : k < σ.length
    · rw [wipe_in hk (by rw [List.length_set]; exact hl), wipe_in hk hl]
    · rw [List.getElem?_eq_none_iff.mpr (by rw [wipe_length, List.length_set]; omega), List.getElem?_eq_none_iff.mpr (by rw [wipe_length]; omega)]
  · rw [wipe_out hk, wipe_out hk]
    have : i ≠ k := fun z => hk (z ▸ h i (by simp))
    rw [List.getElem?_set_ne this]
theorem keeps_refl {σ : St} {js : List Nat} : Keeps js σ σ := fun _ _ => rfl
theorem Keeps.trans {σ σ1 σ2 : St} {js ks : List Nat} (a : Keeps js σ σ1) (b : Keeps ks σ1 σ2) : Keeps (js ++ ks) σ σ2 := fun ws h => (b ws fun j hj => h j (by simp [hj])).trans (a ws fun j hj => h j (by simp [hj]))
section
variable {K : PySem.W.Frag} {ct : Ct} {H0 : Hp} {W : WX} {S : Sh} {s : Stt} {σ : St} {H : Hp}
def Sg (K : PySem.W.Frag) (ct : Ct) (H0 : Hp) (js : List Nat) (g : TG) (f : Tg) : Prop := ∀ S s σ H v d s' (Q : St → Hp → Prop), Rel K ct H0 S s σ H → Rp K S.G S.α s.M.length v d → f d s = some s' →
  (∀ S' σ', Stp S s.M.length H S' s'.M.length H → Rel K ct H0 S' s' σ' H → Keeps js σ σ' → S'.G = S.G → S'.α = S.α → Q σ' H) → g v σ H Q
def Sgs (K : PySem.W.Frag) (ct : Ct) (H0 : Hp) (js : List Nat) (g : TGs) (f : Tgs) : Prop := ∀ S s σ H vs ds s' (Q : St → Hp → Prop), Rel K ct H0 S s σ H → RpL K S.G S.α s.M.length vs ds → f ds s = some s' →
  (∀ S' σ', Stp S s.M.length H S' s'.M.length H → Rel K ct H0 S' s' σ' H → Keeps js σ σ' → S'.G = S.G → S'.α = S.α → Q σ' H) → g vs σ H Q
def tgN (i : Nat) : Tg := fun d s => some ⟨s.env.set i (some (.fz d)), s.M⟩
theorem sg_name {i : Nat} : Sg K ct H0 [i] (gName i) (tgN i) := fun S s σ H v d s' Q rel r e q => by
  cases e
  exact q (S.un i) _ .un (rel.setFz r) keeps_set rfl rfl
def tgNil : Tgs := fun ds s => match ds with
  | [] => some s
  | _ => none
def tgCons (f : Tg) (r : Tgs) : Tgs := fun ds s => match ds with
  | [] => none
  | d :: ds => (f d s).bind fun s1 => r ds s1
def tgT (n : Nat) (f : Tgs) : Tg := fun d s => match tupOf d with
  | some l => if l.length = n then f l s else none
  | none => none
theorem sgs_nil : Sgs K ct H0 [] gNil tgNil := fun S s σ H vs ds s' Q rel r e q => by
  cases r with
  | nil => cases e; exact ⟨rfl, q S σ .refl rel keeps_refl rfl rfl⟩
  | cons a b => cases e
theorem sgs_cons {js ks : List Nat} {g : TG} {gs : TGs} {f : Tg} {r : Tgs} (h1 : Sg K ct H0 js g f) (h2 : Sgs K ct H0 ks gs r) : Sgs K ct H0 (js ++ ks) (gCons g gs) (tgCons f r) := fun S s σ H vs ds s' Q rel rr e q => by
  cases rr with
  | nil => cases e
  | cons a b =>
    obtain ⟨s1, e1, e2⟩ := Option.bind_eq_some_iff.mp e
    refine ⟨_, _, rfl, h1 S s σ H _ _ s1 _ rel a e1 fun S1 σ1 st1 rel1 k1 g1 a1 => ?_⟩
    exact h2 S1 s1 σ1 H _ _ s' _ rel1 (b.step st1) e2 fun S2 σ2 st2 rel2 k2 g2 a2 => q S2 σ2 (st1.trans st2) rel2 (k1.trans k2) (g2.trans g1) (a2.trans a1)
theorem sg_tup {js : List Nat} {n : Nat} {gs : TGs} {f : Tgs} (h : Sgs K ct H0 js gs f) : Sg K ct H0 js (gTup K n gs) (tgT n f) := fun S s σ H v d s' Q rel r e q => by
  unfold tgT at e
  split at e
  · rename_i l el
    split at e
    · rename_i hl
      obtain ⟨p, vs, rfl, k1, k2⟩ := viewT_ok (Hs := H) (a := .val d) (v := v) rel r (by unfold viewT look; exact el)
      exact ⟨p, vs, rfl, k1, by rw [k2.length]; exact hl, h S s σ H vs l s' Q rel k2 e q⟩
    · cases e
  · cases e
def mAsgT (g : Tg) (m : Mo AI) : Ms := fun s => (mV m s).toS fun d s1 => match g d s1 with
  | some s2 => .nx s2
  | none => .no
theorem sv_asgT {js : List Nat} {n : Nat} {gs : TGs} {f : Tg} {te : TE} {m : Mo AI} (hg : Sg K ct H0 js (gTup K n gs) f) (h : Ei K ct H0 W te m) : Sv K ct H0 W (tAsg te (gTup K n gs)) (mAsgT f m) := fun S s σ H Dn rel p =>
  ev_of h S s σ H _ rel (PstS.bind p fun S1 s1 H1 x a st1 rel1 i1 p1 => by
    show gTup K n gs x σ H1 Dn.nx
    split at p1
    · rename_i s2 e
      exact hg S1 s1 σ H1 x a s2 _ rel1 i1 e fun S2 σ2 st2 rel2 _ _ _ => p1 S2 σ2 H1 (st1.trans st2) rel2
    · exact False.elim p1)
/-! ## what is walked -/
structure Im where
  xs : List D
  ck : Option (Nat × Cn)
def chk : Option (Nat × Cn) → Stt → Prop
  | none, _ => True
  | some (k, c), s => s.M[k]? = some c
def Wk (K : PySem.W.Frag) (ct : Ct) (H0 : Hp) (S : Sh) (n : Nat) (H : Hp) (J : It) (im : Im) : Prop := ∀ S1 s1 σ1 H1, Stp S n H S1 s1.M.length H1 → Rel K ct H0 S1 s1 σ1 H1 → chk im.ck s1 →
  (∀ i d, im.xs[i]? = some d → J.go i H1 ∧ ∀ x H2, J.yld i H1 x H2 → ∃ S2, Stp S1 s1.M.length H1 S2 s1.M.length H2 ∧ Rel K ct H0 S2 s1 σ1 H2 ∧ Rp K S2.G S2.α s1.M.length x d) ∧ J.stop im.xs.length H1
def RW (K : PySem.W.Frag) (ct : Ct) (H0 : Hp) : RR It Im := fun _ S s _ H J im => Wk K ct H0 S s.M.length H J im
abbrev Jw (K : PySem.W.Frag) (ct : Ct) (H0 : Hp) (W : WX) (wi : TI) (m : Mo Im) : Prop := Jd K ct H0 (RW K ct H0) W wi m
theorem bW : Bck (RW K ct H0) := fun _ _ _ _ _ _ _ _ _ h => h
def rng (lo : Int) (n : Nat) : List D := (List.range n).map fun i => .int (lo + (i : Nat))
theorem wk_range {lo : Int} {n m : Nat} : Wk K ct H0 S m H (Itr lo n) ⟨rng lo n, none⟩ := fun S1 s1 σ1 H1 st rel _ => by
  refine ⟨fun i d e => ?_, ?_⟩
  · unfold rng at e
    rw [List.getElem?_map] at e
    obtain ⟨j, e1, rfl⟩ := Option.map_eq_some_iff.mp e
    have hj := (List.getElem?_eq_some_iff.mp e1)
    obtain ⟨hlt, ej⟩ := hj
    rw [List.getElem_range] at ej
    rw [List.length_range] at hlt
    subst ej
    refine ⟨hlt, fun x H2 h => ?_⟩
    obtain ⟨rfl, rfl⟩ := h
    exact ⟨S1, .refl, rel, .int _⟩
  · show n ≤ (rng lo n).length
    unfold rng; rw [List.length_map, List.length_range]; exact Nat.le_refl _
def mRng1 (m : Mo (List AI)) : Mo Im := fun s => (m s).bind fun as s1 => match as with
  | [.val (.int n)] => if -(2 ^ 62) ≤ n ∧ n < 2 ^ 62 then .ok ⟨rng 0 n.toNat, none⟩ s1 else .no
  | _ => .no
theorem jw_rng1 {ta : TA} {m : Mo (List AI)} (h : EaL K ct H0 W ta m) : Jw K ct H0 W (iRng1 ta) (mRng1 m) := fun S s σ H Q rel p =>
  h S s σ H _ rel (Pst.bind bW p fun S1 s1 H1 x a st1 rel1 i1 p1 => by
    split at p1
    · rename_i n
      obtain ⟨v, rfl, k⟩ := as1 i1
      cases rp_int k
      split at p1
      · rename_i hz
        exact ⟨n, rfl, hz.1, hz.2, p1 S1 _ H1 .refl rel1 wk_range⟩
      · exact False.elim p1
    · exact False.elim p1)
def mRng2 (m : Mo (List AI)) : Mo Im := fun s => (m s).bind fun as s1 => match as with
  | [.val (.int i), .val (.int j)] => if -(2 ^ 62) ≤ i ∧ i < 2 ^ 62 ∧ -(2 ^ 62) ≤ j ∧ j < 2 ^ 62 then .ok ⟨rng i (j - i).toNat, none⟩ s1 else .no
  | _ => .no
theorem jw_rng2 {ta : TA} {m : Mo (List AI)} (h : EaL K ct H0 W ta m) : Jw K ct H0 W (iRng2 ta) (mRng2 m) := fun S s σ H Q rel p =>
  h S s σ H _ rel (Pst.bind bW p fun S1 s1 H1 x a st1 rel1 i1 p1 => by
    split at p1
    · rename_i i j
      obtain ⟨v, w, rfl, k1, k2⟩ := as2 i1
      cases rp_int k1; cases rp_int k2
      split at p1
      · rename_i hz
        exact ⟨i, j, rfl, hz, p1 S1 _ H1 .refl rel1 wk_range⟩
      · exact False.elim p1
    · exact False.elim p1)
def rngC (lo c : Int) (n : Nat) : List D := (List.range n).map fun i => .int (lo + ((i : Nat) : Int) * c)
theorem wk_rngC {lo c : Int} {n m : Nat} : Wk K ct H0 S m H (Itc lo c n) ⟨rngC lo c n, none⟩ := fun S1 s1 σ1 H1 st rel _ => by
  refine ⟨fun i d e => ?_, ?_⟩
  · unfold rngC at e
    rw [List.getElem?_map] at e
    obtain ⟨j, e1, rfl⟩ := Option.map_eq_some_iff.mp e
    obtain ⟨hlt, ej⟩ := List.getElem?_eq_some_iff.mp e1
    rw [List.getElem_range] at ej
    rw [List.length_range] at hlt
    subst ej
    refine ⟨hlt, fun x H2 h => ?_⟩
    obtain ⟨rfl, rfl⟩ := h
    exact ⟨S1, .refl, rel, .int _⟩
  · show n ≤ (rngC lo c n).length
    unfold rngC; rw [List.length_map, List.length_range]; exact Nat.le_refl _
open Classical in
noncomputable def mRng3 (m : Mo (List AI)) : Mo Im := fun s => (m s).bind fun as s1 => match as with
  | [.val (.int i), .val (.int j), .val (.int c)] => if RgC i j c (Builtin.Range.rangeSize i j c).toNat then .ok ⟨rngC i c (Builtin.Range.rangeSize i j c).toNat, none⟩ s1 else .no
  | _ => .no
theorem as3 {Hs : Hp} {vs : List V} {a b c : AI} (h : AsOk K ct Hs S s σ H vs [a, b, c]) : ∃ v w u, vs = [v, w, u] ∧ ItOk K ct Hs S s σ H v a ∧ ItOk K ct Hs S s σ H w b ∧ ItOk K ct Hs S s σ H u c := by
  cases h with | cons i r => cases r with | cons j r => cases r with | cons k r => cases r; exact ⟨_, _, _, rfl, i, j, k⟩
theorem jw_rng3 {ta : TA} {m : Mo (List AI)} (h : EaL K ct H0 W ta m) : Jw K ct H0 W (iRng3 ta) (mRng3 m) := fun S s σ H Q rel p =>
  h S s σ H _ rel (Pst.bind bW p fun S1 s1 H1 x a st1 rel1 i1 p1 => by
    split at p1
    · rename_i i j c
      obtain ⟨v, w, u, rfl, k1, k2, k3⟩ := as3 i1
      cases rp_int k1; cases rp_int k2; cases rp_int k3
      split at p1
      · rename_i hz
        exact ⟨i, j, c, _, rfl, hz, p1 S1 _ H1 .refl rel1 wk_rngC⟩
      · exact False.elim p1
    · exact False.elim p1)
/-- a list's value, walked -/
def ckOf : D → List D → Option (Nat × Cn)
  | .cid k, l => some (k, .lst l)
  | _, _ => none
theorem list_at {v : V} {d : D} {l : List D} {n : Nat} (rel : Rel K ct H0 S s σ H) (r : Rp K S.G S.α s.M.length v d) (e : listOf s.M d = some l) : ∃ p, v = .ref p ∧ ∀ S1 s1 σ1 H1, Stp S s.M.length H S1 s1.M.length H1 → Rel K ct H0 S1 s1 σ1 H1 → chk (ckOf d l) s1 →
    ∃ vs, SqL K H1 p vs ∧ RpL K S1.G S1.α s1.M.length vs l := by
  cases d with
  | lst l' => cases e; cases r with | lst h1 h2 => exact ⟨_, rfl, fun S1 s1 σ1 H1 st rel1 _ => ⟨_, .of (uL' (rel1.sub _ _ (st.g _ _ h1))), h2.step st⟩⟩
  | clst l' => cases e; cases r with | clst h1 h2 => exact ⟨_, rfl, fun S1 s1 σ1 H1 st rel1 _ => ⟨_, uSqL (rel1.sub.seq (st.g.seq h1)), h2.step st⟩⟩
  | cid k =>
    cases r with
    | cid hk =>
      refine ⟨_, rfl, fun S1 s1 σ1 H1 st rel1 c => ?_⟩
      have c1 : s1.M[k]? = some (.lst l) := c
      obtain ⟨vs, h1, h2⟩ := (rel1.ids k _ c1).2
      rw [st.al k hk] at h1
      exact ⟨vs, .of h1, h2⟩
  | _ => cases e
def mWL (m : Mo AI) : Mo Im := fun s => (mV m s).bind fun d s1 => match listOf s1.M d with
  | some l => .ok ⟨l, ckOf d l⟩ s1
  | none => .no
theorem jw_list {te : TE} {m : Mo AI} (h : Ei K ct H0 W te m) : Jw K ct H0 W (iList K te) (mWL m) := fun S s σ H Q rel p =>
  ev_of h S s σ H _ rel (Pst.bind bW p fun S1 s1 H1 x a st1 rel1 i1 p1 => by
    split at p1
    · rename_i l e
      have i1' : Rp K S1.G S1.α s1.M.length x a := i1
      have hv : viewL s1 (.val a) = some l := e
      obtain ⟨q0, vs0, e0, k1, _⟩ := viewL_ok (Hs := H) (a := .val a) rel1 i1' hv
      obtain ⟨q, rfl, k⟩ := list_at (n := 0) rel1 i1' e
      have e1 : q0 = q := by injection e0 with h; exact h.symm
      rw [e1] at k1
      refine ⟨q, rfl, ⟨vs0, k1⟩, p1 S1 _ H1 .refl rel1 fun S2 s2 σ2 H2 st2 rel2 c => ?_⟩
      obtain ⟨vs, h1, h2⟩ := k S2 s2 σ2 H2 st2 rel2 c
      refine ⟨fun i d e => ?_, ⟨vs, h1, by rw [h2.length]; exact Nat.le_refl _⟩⟩
      obtain ⟨v, e1, e2⟩ := h2.get e
      refine ⟨⟨vs, v, h1, e1⟩, fun x H3 hy => ?_⟩
      obtain ⟨rfl, hy⟩ := hy
      have := hy vs h1
      rw [e1] at this; cases this
      exact ⟨S2, .refl, rel2, e2⟩
    · exact False.elim p1)
def mWT (m : Mo AI) : Mo Im := fun s => (mV m s).bind fun d s1 => match tupOf d with
  | some l => .ok ⟨l, none⟩ s1
  | none => .no
theorem jw_tup {te : TE} {m : Mo AI} (h : Ei K ct H0 W te m) : Jw K ct H0 W (iTup K te) (mWT m) := fun S s σ H Q rel p =>
  ev_of h S s σ H _ rel (Pst.bind bW p fun S1 s1 H1 x a st1 rel1 i1 p1 => by
    split at p1
    · rename_i l e
      have i1' : Rp K S1.G S1.α s1.M.length x a := i1
      have key : ∃ q vs, x = .ref q ∧ SqT K S1.G q vs ∧ RpL K S1.G S1.α s1.M.length vs l := by
        cases a with
        | tup l' => cases e; cases i1' with | tup h1 h2 => exact ⟨_, _, rfl, .of h1, h2⟩
        | ctp l' => cases e; cases i1' with | ctp h1 h2 => exact ⟨_, _, rfl, h1, h2⟩
        | _ => cases e
      obtain ⟨q, vs, rfl, k1, k2⟩ := key
      refine ⟨q, rfl, ⟨vs, uSqT (st_mono rel1.sub k1)⟩, p1 S1 _ H1 .refl rel1 fun S2 s2 σ2 H2 st2 rel2 c => ?_⟩
      have h1 := uSqT (st_mono rel2.sub (st_mono st2.g k1))
      have h2 := k2.step st2
      refine ⟨fun i d e => ?_, ⟨vs, h1, by rw [h2.length]; exact Nat.le_refl _⟩⟩
      obtain ⟨v, e1, e2⟩ := h2.get e
      refine ⟨⟨vs, v, h1, e1⟩, fun x H3 hy => ?_⟩
      obtain ⟨rfl, hy⟩ := hy
      have := hy vs h1
      rw [e1] at this; cases this
      exact ⟨S2, .refl, rel2, e2⟩
    · exact False.elim p1)
def enumL (l : List D) : List D := l.zipIdx.map fun p => .tup [.int ((p.2 : Nat) : Int), p.1]
def mWE (m : Mo (List D)) : Mo Im := fun s => (m s).bind fun ds s1 => match ds with
  | [d] => match listOf s1.M d with
    | some l => .ok ⟨enumL l, ckOf d l⟩ s1
    | none => .no
  | _ => .no
/-- a pair made by an iterator -/
theorem new_tup {vs : List V} {l : List D} {q : Addr} (rel : Rel K ct H0 S s σ H) (hp : H q = none) (h : RpL K S.G S.α s.M.length vs l) : ∃ S2, Stp S s.M.length H S2 s.M.length (upd H q (.tup vs)) ∧ Rel K ct H0 S2 s σ (upd H q (.tup vs)) ∧ Rp K S2.G S2.α s.M.length (.ref q) (.tup l) := by
  have hg := rel.gN hp
  refine ⟨S.frz q (.tup vs), (Stp.new rel hp).frzNew hp hg, (rel.new hp).frz (uP upd_same) (rel.labN hp) hg, ?_⟩
  exact .tup upd_same (h.mono (fun a u e => by show upd S.G q _ a = _; rw [upd_ne (ne_of_none e hg)]; exact e) (fun _ _ => rfl) (Nat.le_refl _))
theorem jw_enum {ta : TA} {m : Mo (List D)} (h : EvL K ct H0 W ta m) : Jw K ct H0 W (iEnum K ta) (mWE m) := fun S s σ H Q rel p =>
  h S s σ H _ rel (Pst.bind bW p fun S1 s1 H1 x a st1 rel1 i1 p1 => by
    split at p1
    · rename_i d
      split at p1
      · rename_i l e
        cases i1 with
        | cons i1' r =>
          cases r
          have hv : viewL s1 (.val d) = some l := e
          obtain ⟨q0, vs0, e0, k1, _⟩ := viewL_ok (Hs := H) (a := .val d) rel1 i1' hv
          obtain ⟨q, rfl, k⟩ := list_at (n := 0) rel1 i1' e
          have e1 : q0 = q := by injection e0 with h; exact h.symm
          rw [e1] at k1
          refine ⟨q, vs0, rfl, k1, p1 S1 _ H1 .refl rel1 fun S2 s2 σ2 H2 st2 rel2 c => ?_⟩
          obtain ⟨vs, h1, h2⟩ := k S2 s2 σ2 H2 st2 rel2 c
          refine ⟨fun i d e => ?_, ⟨vs, h1, by rw [h2.length]; show _ ≤ (enumL l).length; unfold enumL; rw [List.length_map, List.length_zipIdx]; exact Nat.le_refl _⟩⟩
          have e' : ((l.zipIdx).map fun p => D.tup [.int ((p.2 : Nat) : Int), p.1])[i]? = some d := e
          rw [List.getElem?_map, List.getElem?_zipIdx] at e'
          obtain ⟨pr, e2, rfl⟩ := Option.map_eq_some_iff.mp e'
          obtain ⟨y, e3, rfl⟩ := Option.map_eq_some_iff.mp e2
          obtain ⟨v, e4, e5⟩ := h2.get e3
          refine ⟨⟨vs, v, h1, e4⟩, fun x H3 hy => ?_⟩
          obtain ⟨T, x0, rfl, hT, rfl, hx⟩ := hy
          have := hx vs h1
          rw [e4] at this; cases this
          rw [Nat.zero_add]
          exact new_tup rel2 hT (.cons (.int _) (.cons e5 .nil))
      · exact False.elim p1
    · exact False.elim p1)
def zipL (l l' : List D) : List D := (l.zip l').map fun p => .tup [p.1, p.2]
/-- only what is frozen is walked two by two -/
def mWZ (m : Mo (List D)) : Mo Im := fun s => (m s).bind fun ds s1 => match ds with
  | [.lst l, .lst l'] => .ok ⟨zipL l l', none⟩ s1
  | [.lst l, .clst l'] => .ok ⟨zipL l l', none⟩ s1
  | [.clst l, .lst l'] => .ok ⟨zipL l l', none⟩ s1
  | _ => .no
theorem jw_zip {ta : TA} {m : Mo (List D)} (h : EvL K ct H0 W ta m) : Jw K ct H0 W (iZip K ta) (mWZ m) := fun S s σ H Q rel p => by
  have key : ∀ {S1 : Sh} {s1 : Stt} {H1 : Hp} {x : List V} {d d' : D} {l l' : List D}, Rel K ct H0 S1 s1 σ H1 → RpL K S1.G S1.α s1.M.length x [d, d'] → (d = .lst l ∨ d = .clst l) → (d' = .lst l' ∨ d' = .clst l') → ∃ q q' us us', x = [.ref q, .ref q'] ∧ SqL K S1.G q us ∧ SqL K S1.G q' us' ∧ RpL K S1.G S1.α s1.M.length us l ∧ RpL K S1.G S1.α s1.M.length us' l' := by
    intro S1 s1 H1 x d d' l l' rel1 r e e'
    cases r with
    | cons a r =>
      cases r with
      | cons b r =>
        cases r
        have f : ∀ {d : D} {l : List D} {v : V}, Rp K S1.G S1.α s1.M.length v d → (d = .lst l ∨ d = .clst l) → ∃ q us, v = .ref q ∧ SqL K S1.G q us ∧ RpL K S1.G S1.α s1.M.length us l := by
          intro d l v a e
          rcases e with rfl | rfl
          · cases a with | lst h1 h2 => exact ⟨_, _, rfl, .of h1, h2⟩
          · cases a with | clst h1 h2 => exact ⟨_, _, rfl, h1, h2⟩
        obtain ⟨q, us, rfl, k1, k2⟩ := f a e
        obtain ⟨q', us', rfl, k1', k2'⟩ := f b e'
        exact ⟨q, q', us, us', rfl, k1, k1', k2, k2'⟩
  refine h S s σ H _ rel (Pst.bind bW p fun S1 s1 H1 x a st1 rel1 i1 p1 => ?_)
  have fin : ∀ {d d' : D} {l l' : List D}, a = [d, d'] → (d = .lst l ∨ d = .clst l) → (d' = .lst l' ∨ d' = .clst l') → Pst K ct H0 (RW K ct H0) W S1 s1 σ H1 Q (.ok ⟨zipL l l', none⟩ s1) → ∃ a b xs ys, x = [.ref a, .ref b] ∧ SqL K H1 a xs ∧ SqL K H1 b ys ∧ Q (Itz K a b) H1 := by
    intro d d' l l' ea e e' pp
    rw [ea] at i1
    obtain ⟨q, q', us, us', rfl, k1, k1', k2, k2'⟩ := key rel1 i1 e e'
    refine ⟨q, q', us, us', rfl, uSqL (rel1.sub.seq k1), uSqL (rel1.sub.seq k1'), pp S1 _ H1 .refl rel1 fun S2 s2 σ2 H2 st2 rel2 c => ?_⟩
    have h1 := uSqL (rel2.sub.seq (st2.g.seq k1))
    have h1' := uSqL (rel2.sub.seq (st2.g.seq k1'))
    have h2 := k2.step st2
    have h2' := k2'.step st2
    refine ⟨fun i d e => ?_, ⟨us, us', h1, h1', ?_⟩⟩
    · have e0 : ((l.zip l').map fun p => D.tup [p.1, p.2])[i]? = some d := e
      rw [List.getElem?_map] at e0
      obtain ⟨pr, e2, rfl⟩ := Option.map_eq_some_iff.mp e0
      obtain ⟨e3, e4⟩ := List.getElem?_zip_eq_some.mp e2
      obtain ⟨v, f1, f2⟩ := h2.get e3
      obtain ⟨v', f1', f2'⟩ := h2'.get e4
      refine ⟨⟨us, us', v, v', h1, h1', f1, f1'⟩, fun x H3 hy => ?_⟩
      obtain ⟨T, y, y', rfl, hT, rfl, hx, hx'⟩ := hy
      have g1 := hx us h1
      have g2 := hx' us' h1'
      rw [f1] at g1; cases g1
      rw [f1'] at g2; cases g2
      exact new_tup rel2 hT (.cons f2 (.cons f2' .nil))
    · show us.length ≤ (zipL l l').length ∨ us'.length ≤ (zipL l l').length
      unfold zipL
      rw [List.length_map, List.length_zip, h2.length, h2'.length]
      omega
  split at p1
  · exact fin rfl (.inl rfl) (.inl rfl) p1
  · exact fin rfl (.inl rfl) (.inr rfl) p1
  · exact fin rfl (.inr rfl) (.inl rfl) p1
  · exact False.elim p1
def strL (x : Str) : List D := x.cps.toList.map fun c => .str ⟨#[c]⟩
def mWS (m : Mo AI) : Mo Im := fun s => (m s).bind fun a s1 => match a with
  | .val (.str x) => .ok ⟨strL x, none⟩ s1
  | _ => .no
theorem jw_str {te : TE} {m : Mo AI} (h : Ei K ct H0 W te m) : Jw K ct H0 W (iStr te) (mWS m) := fun S s σ H Q rel p =>
  h S s σ H _ rel (Pst.bind bW p fun S1 s1 H1 x a st1 rel1 i1 p1 => by
    split at p1
    · rename_i z
      cases rp_str i1
      refine ⟨z, rfl, p1 S1 _ H1 .refl rel1 fun S2 s2 σ2 H2 st2 rel2 c => ?_⟩
      refine ⟨fun i d e => ?_, ?_⟩
      · have e0 : (z.cps.toList.map fun c => D.str ⟨#[c]⟩)[i]? = some d := e
        rw [List.getElem?_map] at e0
        obtain ⟨y, e2, rfl⟩ := Option.map_eq_some_iff.mp e0
        have e3 : z.cps[i]? = some y := by rw [← Array.getElem?_toList]; exact e2
        refine ⟨(Array.getElem?_eq_some_iff.mp e3).1, fun x H3 hy => ?_⟩
        obtain ⟨rfl, c, hc, rfl⟩ := hy
        rw [e3] at hc; cases hc
        exact ⟨S2, .refl, rel2, .str _⟩
      · show z.cps.size ≤ (strL z).length
        unfold strL; rw [List.length_map, Array.length_toList]; exact Nat.le_refl _
    · exact False.elim p1)
/-! ## for -/
open Classical in
noncomputable def forN (g : Tg) (b : Ms) (ck : Option (Nat × Cn)) : List D → Ms
  | [], s => if chk ck s then .nx s else .no
  | x :: xs, s => if chk ck s then (match g x s with
    | none => .no
    | some s1 => match b s1 with
      | .nx s2 => forN g b ck xs s2
      | .ct s2 => forN g b ck xs s2
      | .bk s2 => .nx s2
      | .rt a s2 => .rt a s2
      | .er x s2 => .er x s2
      | .no => .no) else .no
noncomputable def mFor (mi : Mo Im) (g : Tg) (b : Ms) : Ms := fun s => (mi s).toS fun im s1 => forN g b im.ck im.xs s1
theorem sv_for {js : List Nat} {wi : TI} {g : TG} {tb : TS} {mi : Mo Im} {f : Tg} {b : Ms} (hi : Jw K ct H0 W wi mi) (hg : Sg K ct H0 js g f) (hb : Sv K ct H0 W tb b) : Sv K ct H0 W (tFor wi g tb) (mFor mi f b) := fun S s σ H Dn rel p =>
  hi S s σ H _ rel (PstS.bind p fun S1 s1 H1 J im st1 rel1 wk p1 => by
    have p1 := PstS.from p1 st1
    generalize hR : forN f b im.ck im.xs s1 = R at p1
    refine ⟨fun i m σ' H' => m = im.xs.length - i ∧ ∃ S' s', Stp S1 s1.M.length H1 S' s'.M.length H' ∧ Rel K ct H0 S' s' σ' H' ∧ i ≤ im.xs.length ∧ forN f b im.ck (im.xs.drop i) s' = R, ⟨im.xs.length, rfl, S1, s1, .refl, rel1, Nat.zero_le _, hR⟩, ?_⟩
    rintro i m σ' H' ⟨rfl, S', s', st', rel', hi', hr⟩
    have nno : R ≠ .no := fun z => by rw [z] at p1; exact p1
    by_cases hlt : i < im.xs.length
    · have e := List.drop_eq_getElem_cons hlt
      rw [e] at hr
      have hx : im.xs[i]? = some im.xs[i] := List.getElem?_eq_getElem hlt
      generalize im.xs[i] = d at e hr hx
      unfold forN at hr
      have hc : chk im.ck s' := Classical.byContradiction fun z => by rw [if_neg z] at hr; exact nno hr.symm
      rw [if_pos hc] at hr
      obtain ⟨go, yl⟩ := (wk S' s' σ' H' st' rel' hc).1 i d hx
      refine .inr ⟨go, fun σ2 H2 => ∃ S2 s2, Stp S1 s1.M.length H1 S2 s2.M.length H2 ∧ Rel K ct H0 S2 s2 σ2 H2 ∧ forN f b im.ck (im.xs.drop (i + 1)) s2 = R, ?_, ?_⟩
      · rintro σ2 H2 ⟨S2, s2, k1, k2, k3⟩
        exact ⟨im.xs.length - (i + 1), by omega, rfl, S2, s2, k1, k2, hlt, k3⟩
      · intro x H2 hy
        obtain ⟨S2, st2, rel2, rp2⟩ := yl x H2 hy
        cases hs : f d s' with
        | none => rw [hs] at hr; exact absurd hr.symm nno
        | some s2 =>
          rw [hs] at hr
          refine hg S2 s' σ' H2 x d s2 _ rel2 rp2 hs fun S3 σ3 st3 rel3 _ _ _ => ?_
          have stt := (st'.trans st2).trans st3
          refine hb S3 s2 σ3 H2 _ rel3 ?_
          have hr : (match b s2 with | .nx s2 => forN f b im.ck (im.xs.drop (i + 1)) s2 | .ct s2 => forN f b im.ck (im.xs.drop (i + 1)) s2 | .bk s2 => .nx s2 | .rt a s2 => .rt a s2 | .er x s2 => .er x s2 | .no => .no) = R := hr
          cases hbs : b s2 with
          | nx s4 => rw [hbs] at hr; exact fun S4 σ4 H4 st4 rel4 => ⟨S4, s4, stt.trans st4, rel4, hr⟩
          | ct s4 => rw [hbs] at hr; exact fun S4 σ4 H4 st4 rel4 => ⟨S4, s4, stt.trans st4, rel4, hr⟩
          | bk s4 => rw [hbs] at hr; subst hr; exact fun S4 σ4 H4 st4 rel4 => p1 S4 σ4 H4 (stt.trans st4) rel4
          | rt a s4 => rw [hbs] at hr; subst hr; exact fun S4 σ4 v H4 st4 rel4 q => p1 S4 σ4 v H4 (stt.trans st4) rel4 q
          | er x s4 => rw [hbs] at hr; subst hr; exact fun S4 σ4 H4 dd st4 rel4 q => p1 S4 σ4 H4 dd (stt.trans st4) rel4 q
          | no => rw [hbs] at hr; exact absurd hr.symm nno
    · have e : im.xs.drop i = [] := List.drop_eq_nil_of_le (by omega)
      rw [e] at hr
      unfold forN at hr
      have hc : chk im.ck s' := Classical.byContradiction fun z => by rw [if_neg z] at hr; exact nno hr.symm
      rw [if_pos hc] at hr
      have ei : i = im.xs.length := by omega
      subst hr
      refine .inl ⟨?_, p1 S' σ' H' st' rel'⟩
      rw [ei]
      exact (wk S' s' σ' H' st' rel' hc).2)
/-! ## while -/
def whN (c : Mo Bool) (b : Ms) : Nat → Ms
  | 0, _ => .no
  | n + 1, s => (c s).toS fun k s1 => if k = true then (match b s1 with
    | .nx s2 => whN c b n s2
    | .ct s2 => whN c b n s2
    | .bk s2 => .nx s2
    | .rt a s2 => .rt a s2
    | .er x s2 => .er x s2
    | .no => .no) else .nx s1
theorem whN_mono {c : Mo Bool} {b : Ms} : ∀ {n : Nat} {s : Stt} {r : Rs}, whN c b n s = r → r ≠ .no → whN c b (n + 1) s = r
  | 0, s, r, h, nr => absurd h.symm nr
  | n + 1, s, r, h, nr => by
    unfold whN at h ⊢
    cases hc : c s with
    | no => rw [hc] at h; exact absurd h.symm nr
    | er x s1 => rw [hc] at h; exact h
    | ok k s1 =>
      rw [hc] at h
      have h : (if k = true then (match b s1 with | .nx s2 => whN c b n s2 | .ct s2 => whN c b n s2 | .bk s2 => .nx s2 | .rt a s2 => .rt a s2 | .er x s2 => .er x s2 | .no => .no) else Rs.nx s1) = r := h
      show (if k = true then (match b s1 with | .nx s2 => whN c b (n + 1) s2 | .ct s2 => whN c b (n + 1) s2 | .bk s2 => .nx s2 | .rt a s2 => .rt a s2 | .er x s2 => .er x s2 | .no => .no) else Rs.nx s1) = r
      cases k with
      | false => rw [if_neg Bool.false_ne_true] at h ⊢; exact h
      | true =>
        rw [if_pos rfl] at h ⊢
        cases hb : b s1 with
        | nx s2 => rw [hb] at h; exact whN_mono h nr
        | ct s2 => rw [hb] at h; exact whN_mono h nr
        | bk s2 => rw [hb] at h; exact h
        | rt a s2 => rw [hb] at h; exact h
        | er x s2 => rw [hb] at h; exact h
        | no => rw [hb] at h; exact h
theorem whN_le {c : Mo Bool} {b : Ms} {n m : Nat} {s : Stt} {r : Rs} (h : whN c b n s = r) (nr : r ≠ .no) (hl : n ≤ m) : whN c b m s = r := by
  obtain ⟨d, rfl⟩ := Nat.exists_eq_add_of_le hl
  induction d with
  | zero => exact h
  | succ d ih => exact whN_mono (ih (by omega)) nr
open Classical in
noncomputable def mWh (c : Mo Bool) (b : Ms) : Ms := fun s => if h : ∃ n, whN c b n s ≠ .no then whN c b (Classical.choose h) s else .no
theorem mWh_eq {c : Mo Bool} {b : Ms} {n : Nat} {s : Stt} {r : Rs} (h : whN c b n s = r) (nr : r ≠ .no) : mWh c b s = r := by
  have e : ∃ n, whN c b n s ≠ .no := ⟨n, by rw [h]; exact nr⟩
  unfold mWh
  rw [dif_pos e]
  have k := Classical.choose_spec e
  rcases Nat.le_total n (Classical.choose e) with l | l
  · exact whN_le h nr l
  · rw [← h]; exact (whN_le rfl k l).symm
theorem sv_while {c : TT} {tb : TS} {mc : Mo Bool} {b : Ms} (hc : Et K ct H0 W c mc) (hb : Sv K ct H0 W tb b) : Sv K ct H0 W (tWhile c tb) (mWh mc b) := fun S s σ H Dn rel p => by
  unfold mWh at p
  split at p
  · rename_i h
    have nno := Classical.choose_spec h
    generalize hR : whN mc b (Classical.choose h) s = R at p nno
    refine ⟨fun m σ' H' => ∃ S' s', Stp S s.M.length H S' s'.M.length H' ∧ Rel K ct H0 S' s' σ' H' ∧ whN mc b m s' = R, ⟨_, S, s, .refl, rel, hR⟩, ?_⟩
    rintro m σ' H' ⟨S', s', st', rel', hr⟩
    cases m with
    | zero => exact absurd hr.symm nno
    | succ m =>
      unfold whN at hr
      refine hc S' s' σ' H' _ rel' ?_
      cases hcs : mc s' with
      | no => rw [hcs] at hr; exact absurd hr.symm nno
      | er x s1 => rw [hcs] at hr; have hr : Rs.er x s1 = R := hr; subst hr; exact fun S1 H1 dd st1 rel1 q => p S1 σ' H1 dd (st'.trans st1) rel1 q
      | ok k s1 =>
        rw [hcs] at hr
        intro S1 k' H1 st1 rel1 ek
        have ek : k' = k := ek
        rw [ek]
        clear ek
        have hr : (if k = true then (match b s1 with | .nx s2 => whN mc b m s2 | .ct s2 => whN mc b m s2 | .bk s2 => .nx s2 | .rt a s2 => .rt a s2 | .er x s2 => .er x s2 | .no => .no) else Rs.nx s1) = R := hr
        cases k with
        | false => rw [if_neg Bool.false_ne_true] at hr ⊢; subst hr; exact p S1 σ' H1 (st'.trans st1) rel1
        | true =>
          rw [if_pos rfl] at hr ⊢
          refine ⟨fun σ2 H2 => ∃ S2 s2, Stp S s.M.length H S2 s2.M.length H2 ∧ Rel K ct H0 S2 s2 σ2 H2 ∧ whN mc b m s2 = R, fun σ2 H2 ⟨S2, s2, k1, k2, k3⟩ => ⟨m, Nat.lt_succ_self m, S2, s2, k1, k2, k3⟩, ?_⟩
          have stt := st'.trans st1
          refine hb S1 s1 σ' H1 _ rel1 ?_
          cases hbs : b s1 with
          | nx s4 => rw [hbs] at hr; exact fun S4 σ4 H4 st4 rel4 => ⟨S4, s4, stt.trans st4, rel4, hr⟩
          | ct s4 => rw [hbs] at hr; exact fun S4 σ4 H4 st4 rel4 => ⟨S4, s4, stt.trans st4, rel4, hr⟩
          | bk s4 => rw [hbs] at hr; subst hr; exact fun S4 σ4 H4 st4 rel4 => p S4 σ4 H4 (stt.trans st4) rel4
          | rt a s4 => rw [hbs] at hr; subst hr; exact fun S4 σ4 v H4 st4 rel4 q => p S4 σ4 v H4 (stt.trans st4) rel4 q
          | er x s4 => rw [hbs] at hr; subst hr; exact fun S4 σ4 H4 dd st4 rel4 q => p S4 σ4 H4 dd (stt.trans st4) rel4 q
          | no => rw [hbs] at hr; exact absurd hr.symm nno
  · exact False.elim p
end
end Y

namespace Y
open PySem L2 Z
/-! ## comprehensions -/
def wipeE (env : List (Option Ent)) : List Nat → List (Option Ent)
  | [] => env
  | v :: vs => (wipeE env vs).set v none
def wipeS (ws : List Nat) (s : Stt) : Stt := ⟨wipeE s.env ws, s.M⟩
def kp : Option (Option Ent) → Option Ent
  | some (some (.fz d)) => some (.fz d)
  | _ => none
def rest (e0 e' : List (Option Ent)) : List Nat → List (Option Ent)
  | [] => e'
  | v :: vs => (rest e0 e' vs).set v (kp e0[v]?)
theorem rest_len {e0 e' : List (Option Ent)} : ∀ {ws : List Nat}, (rest e0 e' ws).length = e'.length
  | [] => rfl
  | v :: vs => by show ((rest e0 e' vs).set v _).length = _; rw [List.length_set]; exact rest_len
theorem rest_get {e0 e' : List (Option Ent)} {i : Nat} {en : Ent} : ∀ {ws : List Nat}, (rest e0 e' ws)[i]? = some (some en) → (∃ d, en = .fz d ∧ e0[i]? = some (some (.fz d))) ∨ (i ∉ ws ∧ e'[i]? = some (some en))
  | [], h => .inr ⟨by simp, h⟩
  | v :: vs, h => by
    have h1 : ((rest e0 e' vs).set v (kp e0[v]?))[i]? = some (some en) := h
    by_cases e : v = i
    · subst e
      have hl : v < (rest e0 e' vs).length := by
        have := (List.getElem?_eq_some_iff.mp h1).1
        rw [List.length_set] at this; exact this
      rw [List.getElem?_set_self hl] at h1
      have h2 : kp e0[v]? = some en := Option.some.inj h1
      unfold kp at h2
      split at h2
      · rename_i d q; cases h2; exact .inl ⟨d, rfl, q⟩
      · cases h2
    · rw [List.getElem?_set_ne e] at h1
      rcases rest_get h1 with k | ⟨k1, k2⟩
      · exact .inl k
      · exact .inr ⟨by simp; exact ⟨fun z => e z.symm, k1⟩, k2⟩
section
variable {K : PySem.W.Frag} {ct : Ct} {H0 : Hp} {W : WX} {S : Sh} {s : Stt} {σ : St} {H : Hp}
theorem Rel.setN2 {i : Nat} (r : Rel K ct H0 S s σ H) : Rel K ct H0 (S.un i) ⟨s.env.set i none, s.M⟩ (σ.set i none) H := by
  refine ⟨r.sub, fun a l q => r.lg a l (un_of q), r.dom, by rw [List.length_set]; show _ = (s.env.set i _).length; rw [List.length_set]; exact r.len, fun j en q => ?_, fun k c q => ?_⟩
  · have q1 : (s.env.set i none)[j]? = some (some en) := q
    by_cases z : i = j
    · subst z
      have hlt : i < s.env.length := by
        have := (List.getElem?_eq_some_iff.mp q1).1
        rw [List.length_set] at this; exact this
      rw [List.getElem?_set_self hlt] at q1
      cases q1
    · rw [List.getElem?_set_ne z] at q1
      have hh := r.slot j en q1
      cases en with
      | fz d' => obtain ⟨w, k1, k2⟩ := hh; exact ⟨w, by rw [List.getElem?_set_ne z]; exact k1, k2⟩
      | xn x => exact xn_mono (S := S) (n := s.M.length) (H := H) (fun _ _ e => e) (fun _ _ => rfl) (Nat.le_refl _) (List.getElem?_set_ne z) hh
      | ow c =>
        obtain ⟨p, k1, k2, k3, k4, k5⟩ := hh
        exact ⟨p, by rw [List.getElem?_set_ne z]; exact k1, k2, un_lab k3 (fun w => by cases w; exact z rfl), k4, cn_un k5⟩
  · obtain ⟨k1, k2⟩ := r.ids k c q
    exact ⟨un_lab k1 (fun w => by cases w), cn_un k2⟩
theorem Rel.wipe (r : Rel K ct H0 S s σ H) : ∀ ws : List Nat, ∃ S', Rel K ct H0 S' (wipeS ws s) (wipe σ ws) H ∧ Stp S s.M.length H S' s.M.length H ∧ S'.G = S.G ∧ S'.α = S.α ∧ ∀ a, S.lab a = none → S'.lab a = none
  | [] => ⟨S, r, .refl, rfl, rfl, fun _ h => h⟩
  | v :: vs => by
    obtain ⟨S', r', st, hg, ha, hl⟩ := r.wipe vs
    refine ⟨S'.un v, r'.setN2, st.trans .un, hg, ha, fun a h => ?_⟩
    show (if S'.lab a = some (.slot v) then none else S'.lab a) = none
    rw [hl a h]; rfl
theorem Rel.rest {S' : Sh} {s' : Stt} {H' : Hp} {ws : List Nat} (r0 : Rel K ct H0 S s σ H) (st : Stp S s.M.length H S' s'.M.length H') (r : Rel K ct H0 S' s' (L2.wipe σ ws) H') : Rel K ct H0 S' ⟨rest s.env s'.env ws, s'.M⟩ σ H' := by
  refine ⟨r.sub, r.lg, r.dom, by show _ = (Y.rest _ _ _).length; rw [rest_len, ← r.len, wipe_length], fun j en q => ?_, r.ids⟩
  rcases rest_get q with ⟨d, rfl, k⟩ | ⟨k1, k2⟩
  · obtain ⟨v, h1, h2⟩ := r0.slot j _ k
    exact ⟨v, h1, h2.step st⟩
  · have hh := r.slot j en k2
    cases en with
    | fz d => obtain ⟨v, h1, h2⟩ := hh; exact ⟨v, by rw [← wipe_out k1]; exact h1, h2⟩
    | xn x => exact xn_mono (S := S') (n := s'.M.length) (H := H') (fun _ _ e => e) (fun _ _ => rfl) (Nat.le_refl _) (wipe_out k1).symm hh
    | ow c => obtain ⟨p, h1, h2, h3, h4, h5⟩ := hh; exact ⟨p, by rw [← wipe_out k1]; exact h1, h2, h3, h4, h5⟩
/-- what nobody has is changed -/
theorem Rel.updU {p : Addr} {o : HO} (r : Rel K ct H0 S s σ H) (hl : S.lab p = none) (hg : S.G p = none) : Rel K ct H0 S s σ (upd H p o) := by
  have cn : ∀ {a : Addr} {c : Cn} {l : Lab}, S.lab a = some l → CnOk K ct S s.M.length H a c → CnOk K ct S s.M.length (upd H p o) a c := fun {a c l} q h => h.mono (fun _ _ e => e) (fun _ _ => rfl) (Nat.le_refl _) (fun _ e => by rw [upd_ne (fun z => by subst z; rw [hl] at q; cases q)]; exact e)
  refine ⟨fun a u e => by rw [U_ne (ne_of_none e hg)]; exact r.sub a u e, fun a l e => ?_, fun a e => r.dom a (upd_none.mp e).2, r.len, fun i e h => ?_, fun k c h => ?_⟩
  · obtain ⟨h1, u, h2⟩ := r.lg a l e
    exact ⟨h1, u, by rw [upd_ne (fun z => by subst z; rw [hl] at e; cases e)]; exact h2⟩
  · have q := r.slot i e h
    cases e with
    | fz d => exact q
    | xn x => exact xn_mono (S := S) (n := s.M.length) (H := H) (fun _ _ e => e) (fun _ _ => rfl) (Nat.le_refl _) rfl q
    | ow c =>
      obtain ⟨a, h1, h2, h3, h4, h5⟩ := q
      exact ⟨a, h1, h2, h3, h4, cn h3 h5⟩
  · obtain ⟨h1, h2⟩ := r.ids k c h
    exact ⟨h1, cn h1 h2⟩
theorem Stp.updNew {S' : Sh} {n n' : Nat} {H' : Hp} {p : Addr} {o : HO} (t : Stp S n H S' n' H') (hp : H p = none) : Stp S n H S' n' (upd H' p o) where
  g := t.g
  le := t.le
  al := t.al
  fr := fun a u h l => by
    obtain ⟨h1, h2⟩ := t.fr a u h l
    exact ⟨by rw [upd_ne (ne_of_none h hp)]; exact h1, h2⟩
  gn := t.gn
  dom := fun a e => t.dom a (upd_none.mp e).2
def W0 : WX := fun _ _ _ _ => False
open Classical in
noncomputable def lcN (ws : List Nat) (g : Tg) (c : Mo Bool) (e : Mo D) (ck : Option (Nat × Cn)) : List D → List D → Mo (List D)
  | [], acc, s => if chk ck s then .ok acc s else .no
  | x :: xs, acc, s => if chk ck s then (match g x s with
    | none => .no
    | some s1 => match c s1 with
      | .ok b s2 => if b = true then (match e s2 with
        | .ok d s3 => if acc.length < sizeLine then lcN ws g c e ck xs (acc ++ [d]) (wipeS ws s3) else .no
        | _ => .no) else lcN ws g c e ck xs acc (wipeS ws s2)
      | _ => .no) else .no
noncomputable def mLc (ws : List Nat) (mi : Mo Im) (g : Tg) (c : Mo Bool) (e : Mo AI) : Mo AI := fun s => (mi s).bind fun im s1 => match lcN ws g c (mV e) im.ck im.xs [] (wipeS ws s1) with
  | .ok l s2 => .ok (.new (.lst l)) ⟨rest s1.env s2.env ws, s2.M⟩
  | _ => .no
def mYes : Mo Bool := fun s => .ok true s
theorem et_yes : Et K ct H0 W tYes mYes := fun S s σ H Q rel p => p S true H .refl rel rfl
theorem ei_lcAt {js ws : List Nat} {wi : TI} {g : TG} {tt : TT} {te : TE} {mi : Mo Im} {f : Tg} {c : Mo Bool} {e : Mo AI} {S : Sh} {s : Stt} {σ : St} {H : Hp} {Q : VK} (hi : ∀ R, Pst K ct H0 (RW K ct H0) W S s σ H R (mi s) → wi σ H R) (hg : Sg K ct H0 js g f) (hjs : ∀ j ∈ js, j ∈ ws) (hc : Et K ct H0 W0 tt c) (he : Ei K ct H0 W0 te e)
    (p : Pst K ct H0 (RI K ct) W S s σ H Q (mLc ws mi f c e s)) : tLc wi g tt te ws σ H Q :=
  hi _ (Pst.bind bI p fun S1 s1 H1 J im st1 rel1 wk p1 => by
    intro D hD
    generalize hR : lcN ws f c (mV e) im.ck im.xs [] (wipeS ws s1) = R at p1
    cases R with
    | no => exact False.elim p1
    | er x s2 => exact False.elim p1
    | ok l s2 =>
      have p1 : Pst K ct H0 (RI K ct) W S1 s1 σ H1 Q (.ok (.new (.lst l)) ⟨rest s1.env s2.env ws, s2.M⟩) := p1
      obtain ⟨S1', rel1', st1', hg1, ha1, hl1⟩ := rel1.wipe ws
      refine ⟨fun i m H' => m = im.xs.length - i ∧ i ≤ im.xs.length ∧ ∃ S' s' acc accV, Stp S1 s1.M.length H1 S' s'.M.length H' ∧ Rel K ct H0 S' s' (wipe σ ws) H' ∧ H' D = some (.lst accV) ∧ S'.lab D = none ∧ S'.G D = none ∧ RpL K S'.G S'.α s'.M.length accV acc ∧ lcN ws f c (mV e) im.ck (im.xs.drop i) acc s' = .ok l s2, ⟨im.xs.length, rfl, Nat.zero_le _, S1', wipeS ws s1, [], [], st1'.updNew hD, rel1'.new hD, upd_same, rel1'.labN hD, rel1'.gN hD, .nil, hR⟩, ?_⟩
      rintro i m H' ⟨rfl, hi', S', s', acc, accV, st', rel', hDl, hDlab, hDg, rl, hr⟩
      by_cases hlt : i < im.xs.length
      · have ex := List.drop_eq_getElem_cons hlt
        rw [ex] at hr
        have hx : im.xs[i]? = some im.xs[i] := List.getElem?_eq_getElem hlt
        generalize im.xs[i] = d at ex hr hx
        unfold lcN at hr
        have hck : chk im.ck s' := Classical.byContradiction fun z => by rw [if_neg z] at hr; cases hr
        rw [if_pos hck] at hr
        obtain ⟨go, yl⟩ := (wk S' s' _ H' st' rel' hck).1 i d hx
        refine .inr ⟨go, fun H2 => ∃ S2 s3 acc accV, Stp S1 s1.M.length H1 S2 s3.M.length H2 ∧ Rel K ct H0 S2 s3 (wipe σ ws) H2 ∧ H2 D = some (.lst accV) ∧ S2.lab D = none ∧ S2.G D = none ∧ RpL K S2.G S2.α s3.M.length accV acc ∧ lcN ws f c (mV e) im.ck (im.xs.drop (i + 1)) acc s3 = .ok l s2, ?_, ?_⟩
        · rintro H2 ⟨S2, s3, acc', accV', k⟩
          exact ⟨im.xs.length - (i + 1), by omega, rfl, hlt, S2, s3, acc', accV', k⟩
        · intro x H2 hy
          obtain ⟨S2, st2, rel2, rp2⟩ := yl x H2 hy
          cases hs : f d s' with
          | none => rw [hs] at hr; cases hr
          | some s3 =>
            rw [hs] at hr
            refine hg S2 s' _ H2 x d s3 _ rel2 rp2 hs fun S3 σ3 st3 rel3 kk _ _ => ?_
            have hw : wipe σ3 ws = wipe σ ws := by
              rw [kk ws hjs]
              refine List.ext_getElem? fun k => ?_
              by_cases hk : k ∈ ws
              · by_cases hl : k < σ.length
                · rw [wipe_in hk (by rw [wipe_length]; exact hl), wipe_in hk hl]
                · rw [List.getElem?_eq_none_iff.mpr (by rw [wipe_length, wipe_length]; omega), List.getElem?_eq_none_iff.mpr (by rw [wipe_length]; omega)]
              · rw [wipe_out hk]
            refine ⟨hw, ?_⟩
            have stt := (st'.trans st2).trans st3
            have str := (st2.trans st3)
            obtain ⟨d3, l3⟩ := str.fr D _ hDl hDlab
            refine hc S3 s3 σ3 H2 _ rel3 ?_
            have hr : (match c s3 with | .ok b s2 => if b = true then (match mV e s2 with | .ok d s3 => if acc.length < sizeLine then lcN ws f c (mV e) im.ck (im.xs.drop (i + 1)) (acc ++ [d]) (wipeS ws s3) else .no | _ => .no) else lcN ws f c (mV e) im.ck (im.xs.drop (i + 1)) acc (wipeS ws s2) | _ => .no) = Ro.ok l s2 := hr
            have gD : ∀ {Sx : Sh} {nx : Nat} {Hx : Hp}, Stp S' s'.M.length H' Sx nx Hx → Sx.G D = none := fun {Sx nx Hx} t => by
              cases q : Sx.G D with
              | none => rfl
              | some u =>
                rcases t.gn D u q with z | z | ⟨lb, z⟩
                · rw [hDg] at z; cases z
                · rw [hDl] at z; cases z
                · rw [hDlab] at z; cases z
            cases hcs : c s3 with
            | no => rw [hcs] at hr; cases hr
            | er x s4 => rw [hcs] at hr; cases hr
            | ok b s4 =>
              rw [hcs] at hr
              intro S4 b' H4 st4 rel4 eb
              have eb : b' = b := eb
              rw [eb]
              have str4 := str.trans st4
              obtain ⟨d4, l4⟩ := str4.fr D _ hDl hDlab
              cases b with
              | false =>
                rw [if_neg Bool.false_ne_true]
                have hr : lcN ws f c (mV e) im.ck (im.xs.drop (i + 1)) acc (wipeS ws s4) = .ok l s2 := hr
                obtain ⟨S5, rel5, st5, hg5, ha5, hl5⟩ := rel4.wipe ws
                rw [hw] at rel5
                exact ⟨S5, wipeS ws s4, acc, accV, (stt.trans st4).trans st5, rel5, d4, hl5 _ l4, gD (str4.trans st5), rl.step (str4.trans st5), hr⟩
              | true =>
                rw [if_pos rfl]
                have hr : (match mV e s4 with | .ok d s3 => if acc.length < sizeLine then lcN ws f c (mV e) im.ck (im.xs.drop (i + 1)) (acc ++ [d]) (wipeS ws s3) else .no | _ => .no) = Ro.ok l s2 := hr
                refine ev_of he S4 s4 σ3 H4 _ rel4 ?_
                cases hes : mV e s4 with
                | no => rw [hes] at hr; cases hr
                | er x s5 => rw [hes] at hr; cases hr
                | ok d' s5 =>
                  rw [hes] at hr
                  have hr : (if acc.length < sizeLine then lcN ws f c (mV e) im.ck (im.xs.drop (i + 1)) (acc ++ [d']) (wipeS ws s5) else .no) = Ro.ok l s2 := hr
                  intro S5 y H5 st5 rel5 rp5
                  have str5 := str4.trans st5
                  obtain ⟨d5, l5⟩ := str5.fr D _ hDl hDlab
                  split at hr
                  · rename_i hz
                    refine ⟨accV, d5, by rw [rl.length]; exact hz, ?_⟩
                    have rel6 := rel5.updU (o := .lst (accV ++ [y])) l5 (gD str5)
                    obtain ⟨S7, rel7, st7, hg7, ha7, hl7⟩ := rel6.wipe ws
                    rw [hw] at rel7
                    have rl7 : RpL K S7.G S7.α (wipeS ws s5).M.length (accV ++ [y]) (acc ++ [d']) := by
                      rw [hg7, ha7]
                      exact (rl.step str5).append (.cons rp5 .nil)
                    exact ⟨S7, wipeS ws s5, acc ++ [d'], accV ++ [y], (((stt.trans st4).trans st5).updNew hD).trans st7, rel7, upd_same, hl7 _ l5, by rw [hg7]; exact gD str5, rl7, hr⟩
                  · cases hr
      · have ex : im.xs.drop i = [] := List.drop_eq_nil_of_le (by omega)
        rw [ex] at hr
        unfold lcN at hr
        have hck : chk im.ck s' := Classical.byContradiction fun z => by rw [if_neg z] at hr; cases hr
        rw [if_pos hck] at hr
        cases hr
        have ei : i = im.xs.length := by omega
        refine .inl ⟨by rw [ei]; exact (wk S' _ _ H' st' rel' hck).2, ?_⟩
        exact p1 S' _ H' st' (rel1.rest st' rel') ⟨D, rfl, hD, hDlab, hDg, rfl, accV, hDl, rl⟩)
theorem ei_lc {js ws : List Nat} {wi : TI} {g : TG} {tt : TT} {te : TE} {mi : Mo Im} {f : Tg} {c : Mo Bool} {e : Mo AI} (hi : Jw K ct H0 W wi mi) (hg : Sg K ct H0 js g f) (hjs : ∀ j ∈ js, j ∈ ws) (hc : Et K ct H0 W0 tt c) (he : Ei K ct H0 W0 te e) :
    Ei K ct H0 W (tLc wi g tt te ws) (mLc ws mi f c e) := fun S s σ H Q rel p => ei_lcAt (fun R q => hi S s σ H R rel q) hg hjs hc he p
/-! ## defs -/
def FPst (K : PySem.W.Frag) (ct : Ct) (S : Sh) (M : List Cn) (H : Hp) (Q : VK) (E : XK) : Fr → Prop
  | .ok a M' => ∀ S' v H', Stp S M.length H S' M'.length H' → Rel K ct H S' ⟨[], M'⟩ [] H' → ItOk K ct H S' ⟨[], M'⟩ [] H' v a → Q v H'
  | .er x M' => ∀ S' H' dd, Stp S M.length H S' M'.length H' → Rel K ct H S' ⟨[], M'⟩ [] H' → XOk K S' M'.length H' x dd → E (.ref (ct x.cls)) dd H'
  | .no => False
/-- a def's promise -/
def spM (K : PySem.W.Frag) (ct : Ct) (f : Mf) : Sp := fun vs H Q E => ∃ S M ds, Rel K ct H S ⟨[], M⟩ [] H ∧ RpL K S.G S.α M.length vs ds ∧ FPst K ct S M H Q E (f ds M)
/-- np parameters, n slots -/
def mFn (np n : Nat) (body : Ms) : Mf := fun ds M => if ds.length = np then (match body ⟨ds.map (fun d => some (.fz d)) ++ List.replicate (n - ds.length) none, M⟩ with
  | .nx s => .ok (.val .non) s.M
  | .rt a s => .ok a s.M
  | .er x s => .er x s.M
  | _ => .no) else .no
theorem sp_len {np n : Nat} {body : Ms} {vs : List V} {Q : VK} {E : XK} (h : spM K ct (mFn np n body) vs H Q E) : vs.length = np := by
  obtain ⟨S, M, ds, _, r, h⟩ := h
  rw [r.length]
  unfold mFn at h
  split at h
  · assumption
  · exact False.elim h
theorem Rel.enter {vs : List V} {ds : List D} {N : List Str} {M : List Cn} (r : Rel K ct H S ⟨[], M⟩ [] H) (h : RpL K S.G S.α M.length vs ds) : Rel K ct H S ⟨ds.map (fun d => some (.fz d)) ++ List.replicate (N.length - ds.length) none, M⟩ (start N vs) H := by
  refine ⟨r.sub, r.lg, r.dom, ?_, fun i e q => ?_, r.ids⟩
  · show (vs.map some ++ List.replicate (N.length - vs.length) none).length = (ds.map _ ++ List.replicate _ none).length
    simp only [List.length_append, List.length_map, List.length_replicate, h.length]
  · have q1 : (ds.map (fun d => some (Ent.fz d)) ++ List.replicate (N.length - ds.length) none)[i]? = some (some e) := q
    by_cases hl : i < ds.length
    · rw [List.getElem?_append_left (by rw [List.length_map]; exact hl), List.getElem?_map] at q1
      obtain ⟨d, e1, e2⟩ := Option.map_eq_some_iff.mp q1
      cases e2
      obtain ⟨v, h1, h2⟩ := h.get e1
      refine ⟨v, ?_, h2⟩
      show (vs.map some ++ List.replicate (N.length - vs.length) none)[i]? = _
      rw [List.getElem?_append_left (by rw [List.length_map, h.length]; exact hl), List.getElem?_map, h1]; rfl
    · rw [List.getElem?_append_right (by rw [List.length_map]; omega), List.getElem?_replicate] at q1
      split at q1
      · cases q1
      · cases q1
theorem Rel.leave (r : Rel K ct H0 S s σ H) : Rel K ct H0 S ⟨[], s.M⟩ [] H := ⟨r.sub, r.lg, r.dom, rfl, fun i e q => by simp at q, r.ids⟩
/-- the body keeps the promise -/
theorem fn_run {N : List Str} {np : Nat} {t : TS} {body : Ms} {vs : List V} {Q : VK} {E : XK} (hb : Sv K ct H (fun cls dd _ H' => E cls dd H') t body) (h : spM K ct (mFn np N.length body) vs H Q E) : t { nx := fun _ H' => Q .non H', rt := Q } (start N vs) H := by
  obtain ⟨S, M, ds, r, rp, h⟩ := h
  refine hb S _ _ H _ (r.enter rp) ?_
  unfold mFn at h
  split at h
  rotate_left
  · exact False.elim h
  generalize hR : body ⟨ds.map (fun d => some (.fz d)) ++ List.replicate (N.length - ds.length) none, M⟩ = R at h
  cases R with
  | nx s => exact fun S' σ' H' st rel => h S' .non H' st rel.leave .non
  | rt a s => exact fun S' σ' v H' st rel i => h S' v H' st rel.leave (by
      cases a with
      | val d => exact i
      | new c => exact i
      | slot j => simp [ItOk] at i)
  | er x s => exact fun S' σ' H' dd st rel q => h S' H' dd st rel.leave q
  | bk s => exact False.elim h
  | ct s => exact False.elim h
  | no => exact False.elim h
/-! ### calls -/
def Sh.hide (S : Sh) : Sh := ⟨S.G, S.α, fun a => match S.lab a with
  | some (.slot _) => none
  | l => l⟩
def Sh.back (S S' : Sh) : Sh := ⟨S'.G, S'.α, fun a => match S.lab a with
  | some (.slot i) => some (.slot i)
  | _ => match S'.lab a with
    | some (.slot _) => none
    | l => l⟩
theorem hide_of {a : Addr} {l : Lab} (h : S.hide.lab a = some l) : S.lab a = some l ∧ ∀ i, l ≠ .slot i := by
  have h1 : (match S.lab a with | some (.slot _) => none | l => l) = some l := h
  split at h1
  · cases h1
  · rename_i hn; exact ⟨h1, fun i z => by subst z; exact hn i h1⟩
theorem hide_id {a : Addr} {k : Nat} (h : S.lab a = some (.id k)) : S.hide.lab a = some (.id k) := by
  show (match S.lab a with | some (.slot _) => none | l => l) = _
  rw [h]
theorem hide_none {a : Addr} (h : S.lab a = none) : S.hide.lab a = none := by
  show (match S.lab a with | some (.slot _) => none | l => l) = _
  rw [h]
theorem hide_slot {a : Addr} {i : Nat} (h : S.lab a = some (.slot i)) : S.hide.lab a = none := by
  show (match S.lab a with | some (.slot _) => none | l => l) = _
  rw [h]
theorem back_slot {S' : Sh} {a : Addr} {i : Nat} (h : S.lab a = some (.slot i)) : (S.back S').lab a = some (.slot i) := by
  show (match S.lab a with | some (.slot i) => some (Lab.slot i) | _ => (match S'.lab a with | some (.slot _) => none | l => l)) = _
  rw [h]
theorem back_else {S' : Sh} {a : Addr} (h : ∀ i, S.lab a ≠ some (.slot i)) : (S.back S').lab a = (match S'.lab a with | some (.slot _) => none | l => l) := by
  show (match S.lab a with | some (.slot i) => some (Lab.slot i) | _ => (match S'.lab a with | some (.slot _) => none | l => l)) = _
  split
  · rename_i i e; exact absurd e (h i)
  · rfl
theorem Rel.hide (r : Rel K ct H0 S s σ H) : Rel K ct H S.hide ⟨[], s.M⟩ [] H := ⟨r.sub, fun a l q => r.lg a l (hide_of q).1, fun _ h => h, rfl, fun i e q => by simp at q, fun k c q => ⟨hide_id (r.ids k c q).1, (r.ids k c q).2.mono (fun _ _ e => e) (fun _ _ => rfl) (Nat.le_refl _) (fun _ e => e)⟩⟩
theorem Rel.back {S' : Sh} {M' : List Cn} {H' : Hp} (r : Rel K ct H0 S s σ H) (st : Stp S.hide s.M.length H S' M'.length H') (r' : Rel K ct H S' ⟨[], M'⟩ [] H') :
    Rel K ct H0 (S.back S') ⟨s.env, M'⟩ σ H' ∧ Stp S s.M.length H (S.back S') M'.length H' := by
  have slot_keep : ∀ {a : Addr} {i : Nat}, S.lab a = some (.slot i) → (∀ o, H a = some o → H' a = some o) ∧ S'.G a = none ∧ S'.lab a = none := fun {a i} h => by
    obtain ⟨hg, o, ho⟩ := r.lg a _ h
    have k := st.fr a o ho (hide_slot h)
    refine ⟨fun u hu => (st.fr a u hu (hide_slot h)).1, ?_, k.2⟩
    cases q : S'.G a with
    | none => rfl
    | some u =>
      rcases st.gn a u q with z | z | ⟨l, z⟩
      · have z : S.G a = some u := z; rw [hg] at z; cases z
      · rw [ho] at z; cases z
      · rw [hide_slot h] at z; cases z
  have cn : ∀ {a : Addr} {c : Cn}, CnOk K ct S' M'.length H' a c → CnOk K ct (S.back S') M'.length H' a c := fun {a c} h => h.mono (fun _ _ e => e) (fun _ _ => rfl) (Nat.le_refl _) (fun _ e => e)
  refine ⟨⟨r'.sub, fun a l q => ?_, fun a h => r.dom a (st.dom a h), r.len, fun i e q => ?_, fun k c q => ?_⟩, ⟨st.g, st.le, st.al, fun a o h l => ?_, fun a o q => ?_, st.dom⟩⟩
  · by_cases hs : ∃ i, S.lab a = some (.slot i)
    · obtain ⟨i, hs⟩ := hs
      obtain ⟨_, o, ho⟩ := r.lg a _ hs
      obtain ⟨k1, k2, k3⟩ := slot_keep hs
      exact ⟨k2, o, k1 o ho⟩
    · rw [back_else (fun i z => hs ⟨i, z⟩)] at q
      split at q
      · cases q
      · exact r'.lg a l q
  · have hh := r.slot i e q
    cases e with
    | fz d => obtain ⟨v, h1, h2⟩ := hh; exact ⟨v, h1, h2.mono st.g st.al st.le⟩
    | xn x => exact xn_mono (S := S) (n := s.M.length) (H := H) st.g st.al st.le rfl hh
    | ow c =>
      obtain ⟨p, h1, h2, h3, h4, h5⟩ := hh
      obtain ⟨k1, k2, k3⟩ := slot_keep h3
      exact ⟨p, h1, h2, back_slot h3, h4, h5.mono st.g st.al st.le k1⟩
  · obtain ⟨k1, k2⟩ := r'.ids k c q
    refine ⟨?_, cn k2⟩
    have hne : ∀ i, S.lab (S'.α k) ≠ some (.slot i) := fun i z => by
      have := (slot_keep z).2.2
      rw [k1] at this; cases this
    show (S.back S').lab (S'.α k) = _
    rw [back_else hne, k1]
  · obtain ⟨h1, h2⟩ := st.fr a o h (hide_none l)
    refine ⟨h1, ?_⟩
    rw [back_else (fun i z => by rw [l] at z; cases z), h2]
  · rcases st.gn a o q with z | z | ⟨l, z⟩
    · exact .inl z
    · exact .inr (.inl z)
    · exact .inr (.inr ⟨l, (hide_of z).1⟩)
def mCall (f : Mf) (m : Mo (List D)) : Mo AI := fun s => (m s).bind fun ds s1 => match f ds s1.M with
  | .ok a M' => .ok a ⟨s1.env, M'⟩
  | .er x M' => .er x ⟨s1.env, M'⟩
  | .no => .no
/-- .. where it doesn't raise -/
def mCallN (f : Mf) (m : Mo (List D)) : Mo AI := fun s => (m s).bind fun ds s1 => match f ds s1.M with
  | .ok a M' => .ok a ⟨s1.env, M'⟩
  | _ => .no
theorem fpst_of {f : Fr} {E : XK} {Q : VK} (rel : Rel K ct H0 S s σ H) (hE : ∀ x M', f = .er x M' → ∀ S' H' dd, Stp S s.M.length H S' M'.length H' → Rel K ct H0 S' ⟨s.env, M'⟩ σ H' → XOk K S' M'.length H' x dd → E (.ref (ct x.cls)) dd H')
    (hQ : ∀ a M', f = .ok a M' → ∀ S' v H', Stp S s.M.length H S' M'.length H' → Rel K ct H0 S' ⟨s.env, M'⟩ σ H' → ItOk K ct H S' ⟨s.env, M'⟩ σ H' v a → Q v H') (hn : f ≠ .no) : FPst K ct S.hide s.M H Q E f := by
  cases f with
  | no => exact absurd rfl hn
  | er x M' =>
      intro S' H' dd st r' xo
      obtain ⟨k1, k2⟩ := rel.back st r'
      exact hE x M' rfl (S.back S') H' dd k2 k1 xo
  | ok a M' =>
      intro S' v H' st r' it
      obtain ⟨k1, k2⟩ := rel.back st r'
      refine hQ a M' rfl (S.back S') v H' k2 k1 ?_
      cases a with
      | val d => exact it
      | slot j => simp [ItOk] at it
      | new c =>
        obtain ⟨p, rfl, h1, h2, h3, h4, h5⟩ := it
        refine ⟨p, rfl, h1, ?_, h3, h4, h5.mono (fun _ _ e => e) (fun _ _ => rfl) (Nat.le_refl _) (fun _ e => e)⟩
        rw [back_else (fun i z => by have := rel.labN h1; rw [z] at this; cases this), h2]
theorem ei_callN {f : Mf} {E : XK} {t : TA} {m : Mo (List D)} (h : EvL K ct H0 W t m) : Ei K ct H0 W (tCallZ (spM K ct f) E t) (mCallN f m) := fun S s σ H Q rel p =>
  h S s σ H _ rel (Pst.bind bI p fun S1 s1 H1 vs ds st1 rel1 i1 p1 => ⟨S1.hide, s1.M, ds, rel1.hide, i1, by
    generalize hf : f ds s1.M = r at p1
    cases r with
    | no => exact False.elim p1
    | er x M' => exact False.elim p1
    | ok a M' => exact fpst_of rel1 (fun x M' e => by cases e) (fun a' M'' e S' v H' st rl it => by cases e; exact p1 S' v H' st rl it) (fun e => by cases e)⟩)
theorem ei_callN0 {f : Mf} {E : XK} : Ei K ct H0 W (tCallZ (spM K ct f) E tNil) (mCallN f vNil) := ei_callN ev_nil
theorem ei_callS {f : Mf} {t : TA} {m : Mo (List D)} (h : EvL K ct H0 W t m) : Ei K ct H0 W (tCallS (spM K ct f) (WE W) t) (mCall f m) := fun S s σ H Q rel p =>
  h S s σ H _ rel (Pst.bind bI p fun S1 s1 H1 vs ds st1 rel1 i1 p1 => ⟨S1.hide, s1.M, ds, rel1.hide, i1, by
    generalize hf : f ds s1.M = r at p1
    cases r with
    | no => exact False.elim p1
    | er x M' => exact fpst_of rel1 (fun x' M'' e S' H' dd st rl xo => by cases e; exact p1 S' H' dd st rl xo) (fun a' M'' e => by cases e) (fun e => by cases e)
    | ok a M' => exact fpst_of rel1 (fun x M' e => by cases e) (fun a' M'' e S' v H' st rl it => by cases e; exact p1 S' v H' st rl it) (fun e => by cases e)⟩)
end
end Y

namespace Y
open PySem L2 Z
section
variable {X : Cx}
def rIntY : List V → Hp → VK → Prop := fun xs H Q => ((∃ i, xs = [.int i] ∧ Q (.int i) H) ∨ ∃ k, xs = [.bl k] ∧ Q (.int (if k then 1 else 0)) H) ∨ ∃ a n, xs = [.str a] ∧ PySem.intText? a = some n ∧ a.length ≤ 640 ∧ Q (.int n) H
theorem call_intY : CallR X (.type "int") rIntY := L2.CallR.or call_int1 call_int_str
def rStrY : List V → Hp → VK → Prop := fun xs H Q => ∃ i, xs = [.int i] ∧ i.natAbs.log2 < 1920 ∧ Q (.str (toString i)) H
theorem call_strY : CallR X (.type "str") rStrY := call_str_int
def rTupY (K : PySem.W.Frag) : List V → Hp → VK → Prop := fun xs H Q => ∃ p ys, xs = [.ref p] ∧ ((SqL K H p ys ∧ ∀ l, H l = none → Q (.ref l) (upd H l (.tup ys))) ∨ (SqT K H p ys ∧ Q (.ref p) H))
theorem call_tupY {K : PySem.W.Frag} (hK : X.K = K) : CallR X (.type "tuple") (rTupY K) := by subst hK; exact call_tuple_of
theorem PSet.or {t t' : TSet} (h : PSet X t) (h' : PSet X t') : PSet X (fun o i v H Q => t o i v H Q ∨ t' o i v H Q) := by
  intro pins s σ H o i v ov iv u Q I ro ri rv q
  rcases q with q | q
  · exact h pins s σ H o i v ov iv u Q I ro ri rv q
  · exact h' pins s σ H o i v ov iv u Q I ro ri rv q
def rSetY : TSet := fun o i v H Q => rSetL o i v H Q ∨ rSetD o i v H Q
theorem set_Y (hu : X.A.units + 1 < cLine) : PSet X rSetY := PSet.or set_list (set_dict hu)
end
section
variable {K : PySem.W.Frag} {ct : Ct} {H0 : Hp} {W : WX} {S : Sh} {s : Stt} {σ : St} {H : Hp}
theorem cr_ty {n : String} : CR K (.ty n) (.ty n) := fun _ _ _ => .ty n
def fNeg : Stt → AI → Ro AI := fun s a => match a with
  | .val (.int i) => .ok (.val (.int (-i))) s
  | _ => .no
theorem j_neg : J1 K ct H0 (rU fun i => .int (-i)) fNeg := fun W S s σ H Hs x a Q rel ia p => by
  unfold fNeg at p
  split at p
  · rename_i i
    cases rp_int ia
    exact ⟨i, rfl, p.val rel (.int _)⟩
  · exact False.elim p
def fInt (s : Stt) (as : List AI) : Ro AI := match as with
  | [.val (.int i)] => .ok (.val (.int i)) s
  | [.val (.bl k)] => .ok (.val (.int (if k then 1 else 0))) s
  | [.val (.str x)] => match PySem.intText? x with
    | some n => if x.length ≤ 640 then .ok (.val (.int n)) s else .no
    | none => .no
  | _ => .no
theorem jb_int : JB K ct H0 rIntY fInt := fun W S s σ H Hs vs as Q rel ia p => by
  unfold fInt at p
  split at p
  · rename_i i
    obtain ⟨v, rfl, h⟩ := as1 ia
    cases rp_int h
    exact .inl (.inl ⟨i, rfl, p.val rel (.int _)⟩)
  · rename_i k
    obtain ⟨v, rfl, h⟩ := as1 ia
    cases rp_bl h
    exact .inl (.inr ⟨k, rfl, p.val rel (.int _)⟩)
  · rename_i x
    obtain ⟨v, rfl, h⟩ := as1 ia
    cases rp_str h
    split at p
    · rename_i n e
      split at p
      · rename_i hz
        exact .inr ⟨x, n, rfl, e, hz, p.val rel (.int _)⟩
      · exact False.elim p
    · exact False.elim p
  · exact False.elim p
def fStr (s : Stt) (as : List AI) : Ro AI := match as with
  | [.val (.int i)] => if i.natAbs.log2 < 1920 then .ok (.val (.str (toString i))) s else .no
  | _ => .no
theorem jb_str : JB K ct H0 rStrY fStr := fun W S s σ H Hs vs as Q rel ia p => by
  unfold fStr at p
  split at p
  · rename_i i
    obtain ⟨v, rfl, h⟩ := as1 ia
    cases rp_int h
    split at p
    · rename_i hz
      exact ⟨i, rfl, hz, p.val rel (.str _)⟩
    · exact False.elim p
  · exact False.elim p
def fTup (s : Stt) (as : List AI) : Ro AI := match as with
  | [a] => match viewL s a with
    | some l => .ok (.val (.tup l)) s
    | none => match a with
      | .val (.tup l) => .ok (.val (.tup l)) s
      | _ => .no
  | _ => .no
theorem jb_tup : JB K ct H0 (rTupY K) fTup := fun W S s σ H Hs vs as Q rel ia p => by
  unfold fTup at p
  split at p
  · rename_i a
    obtain ⟨v, rfl, h⟩ := as1 ia
    split at p
    · rename_i l e
      obtain ⟨q, us, rfl, k1, k2⟩ := viewL_ok rel h e
      exact ⟨q, us, rfl, .inl ⟨k1, fun r hr => p.newT rel hr k2⟩⟩
    · split at p
      · rename_i l _
        have h' : Rp K S.G S.α s.M.length v (.tup l) := h
        cases h' with
        | tup h1 h2 => exact ⟨_, _, rfl, .inr ⟨.of (uP' (rel.sub _ _ h1)), p.val rel (.tup h1 h2)⟩⟩
      · exact False.elim p
  · exact False.elim p
/-! ## stores -/
def mAug (i : Nat) (f : Int → Int → Int) (m : Mo AI) : Ms := fun s => match entAt s i with
  | some (.fz (.int x)) => (m s).toS fun a s1 => match a with
    | .val (.int y) => .nx ⟨s1.env.set i (some (.fz (.int (f x y)))), s1.M⟩
    | _ => .no
  | _ => .no
theorem sv_aug {i : Nat} {f : Int → Int → Int} {te : TE} {m : Mo AI} (h : Ei K ct H0 W te m) : Sv K ct H0 W (tAug i te (ipI f)) (mAug i f m) := fun S s σ H Dn rel p => by
  unfold mAug at p
  split at p
  · rename_i x e
    obtain ⟨v, h1, h2⟩ := rel.slot i _ (entAt_eq e)
    cases rp_int h2
    refine ⟨.int x, h1, h S s σ H _ rel (PstS.bind p fun S1 s1 H1 y a st1 rel1 i1 p1 => ?_)⟩
    split at p1
    · rename_i j
      cases rp_int i1
      exact ⟨x, j, rfl, rfl, p1 (S1.un i) _ H1 (st1.trans .un) (rel1.setFz (.int _))⟩
    · exact False.elim p1
  · exact False.elim p
def keyOf : D → Option Key
  | .int i => some (.inl i)
  | .str x => some (.inr x)
  | _ => none
theorem keyOf_rp {G : Hp} {α : Nat → Addr} {n : Nat} {v : V} {d : D} {k : Key} (h : Rp K G α n v d) (e : keyOf d = some k) : v = kV k := by
  cases h <;> first | (cases e; rfl) | cases e
/-- o[i] = d -/
def setIt (a : AI) (i d : D) (s : Stt) : Option Stt := match getC s a with
  | some (.lst l) => match i with
    | .int k => (ixN l.length k).map fun j => setC s a (.lst (l.set j d))
    | _ => none
  | some (.dK l) => (keyOf i).bind fun k => if l.length < sizeLine then some (setC s a (.dK (pu l k d))) else none
  | _ => none
theorem setIt_ok {Hs : Hp} {x y v : V} {a : AI} {i d : D} {s' : Stt} {Q : Hp → Prop} (rel : Rel K ct H0 S s σ H) (ia : ItOk K ct Hs S s σ H x a) (ii : Rp K S.G S.α s.M.length y i) (id : Rp K S.G S.α s.M.length v d) (e : setIt a i d s = some s')
    (q : ∀ H', Stp S s.M.length H S s'.M.length H' → Rel K ct H0 S s' σ H' → Q H') : rSetY x y v H Q := by
  unfold setIt at e
  split at e
  · rename_i l eg
    split at e
    · rename_i k
      cases rp_int ii
      obtain ⟨j, e1, rfl⟩ := Option.map_eq_some_iff.mp e
      obtain ⟨p, rfl, ⟨us, h1, h2⟩, h3⟩ := mut_ok rel ia eg
      obtain ⟨r1, r2⟩ := h3 (.lst (us.set j v)) (.lst (l.set j d)) (fun _ => rfl) ⟨_, upd_same, h2.set id j⟩
      exact .inl ⟨p, us, k, j, rfl, rfl, h1, by rw [h2.length]; exact e1, q _ r2 r1⟩
    · cases e
  · rename_i l eg
    obtain ⟨k, e1, e2⟩ := Option.bind_eq_some_iff.mp e
    split at e2
    · rename_i hz
      cases e2
      obtain ⟨p, rfl, ⟨us, h1, h3, h2⟩, h4⟩ := mut_ok rel ia eg
      have rk := RpK.of h3 h2
      have rk' := rk.put (k := k) id
      obtain ⟨r1, r2⟩ := h4 (.dK (putK us k v)) (.dK (pu l k d)) (fun _ => rfl) ⟨_, upd_same, rk'.keys, rk'.vals⟩
      rw [keyOf_rp ii e1]
      exact .inr ⟨p, _, rfl, DPut.k h1 (by rw [rk.len]; exact hz), q _ r2 r1⟩
    · cases e2
  · cases e
def mAsgS (mo mi : Mo AI) (mv : Mo AI) : Ms := fun s => (mV mv s).toS fun d s1 => (mo s1).toS fun a s2 => (mV mi s2).toS fun i s3 => match setIt a i d s3 with
  | some s4 => .nx s4
  | none => .no
theorem sv_asgS {te to ti : TE} {mo mi mv : Mo AI} (hv : Ei K ct H0 W te mv) (ho : Ei K ct H0 W to mo) (hi : Ei K ct H0 W ti mi) : Sv K ct H0 W (tAsg te (gSub to ti rSetY)) (mAsgS mo mi mv) := fun S s σ H Dn rel p =>
  ev_of hv S s σ H _ rel (PstS.bind p fun S1 s1 H1 v d st1 rel1 i1 p1 => ho S1 s1 σ H1 _ rel1 (PstS.bind (PstS.from p1 st1) fun S2 s2 H2 x a st2 rel2 i2 p2 => ev_of hi S2 s2 σ H2 _ rel2 (PstS.bind (PstS.from p2 st2) fun S3 s3 H3 y i st3 rel3 i3 p3 => by
    have p3 := PstS.from p3 st3
    split at p3
    · rename_i s4 e
      exact setIt_ok rel3 (i2.step st3) i3 (Rp.step (st2.trans st3) i1) e fun H' st rl => p3 S3 σ H' st rl
    · exact False.elim p3)))
/-! ## dicts -/
def mDNew : Mo AI := fun s => .ok (.new (.dK [])) s
theorem ei_dnew : Ei K ct H0 W tDNewK mDNew := fun S s σ H Q rel p q hq => p.newC rel hq rfl ⟨[], upd_same, rfl, .nil⟩
/-- d.pop(k), k is there -/
def fPop (s : Stt) (a : AI) (i : D) : Ro AI := match getC s a with
  | some (.dK l) => match (keyOf i).bind fun k => (vl l k).map fun d => (k, d) with
    | some (k, d) => .ok (.val d) (setC s a (.dK (dr l k)))
    | none => .no
  | _ => .no
def mPop (mo mi : Mo AI) : Mo AI := fun s => (mo s).bind fun a s1 => match viewD s1 a with
  | some _ => (mV mi s1).bind fun i s2 => fPop s2 a i
  | none => .no
theorem ei_pop {td ty : TE} {mo mi : Mo AI} (ho : Ei K ct H0 W td mo) (hi : Ei K ct H0 W ty mi) : Ei K ct H0 W (tDPop1 td ty) (mPop mo mi) := fun S s σ H Q rel p =>
  ho S s σ H _ rel (Pst.bind bI p fun S1 s1 H1 x a st1 rel1 i1 p1 => by
    split at p1
    · rename_i l e
      obtain ⟨q, kvs, rfl, h1, h2⟩ := viewD_ok rel1 i1 e
      refine ⟨q, rfl, .inl ⟨kvs, h1⟩, ev_of hi S1 s1 σ H1 _ rel1 (Pst.bind bI p1 fun S2 s2 H2 y i st2 rel2 i2 p2 => ?_)⟩
      unfold fPop at p2
      split at p2
      · rename_i l' eg
        split at p2
        · rename_i k d ek
          obtain ⟨k', e1, e2⟩ := Option.bind_eq_some_iff.mp ek
          obtain ⟨d', e3, e4⟩ := Option.map_eq_some_iff.mp e2
          obtain ⟨rfl, rfl⟩ : k' = k ∧ d' = d := by injection e4 with a b; exact ⟨a, b⟩
          obtain ⟨p, ep, ⟨us, g1, g3, g2⟩, g4⟩ := mut_ok rel2 (i1.step st2) eg
          cases ep
          have rk := RpK.of g3 g2
          have rk' := rk.drop (k := k')
          obtain ⟨r1, r2⟩ := g4 (.dK (dropK us k')) (.dK (dr l' k')) (fun _ => rfl) ⟨_, upd_same, rk'.keys, rk'.vals⟩
          rcases rk.get (k := k') with ⟨z1, z2⟩ | ⟨v, d0, z1, z2, z3⟩
          · rw [z1] at e3; cases e3
          · rw [z1] at e3; cases e3
            refine ⟨us, k', v, g1, keyOf_rp i2 e1, z2, p2 S2 v _ r2 r1 ?_⟩
            show Rp K S2.G S2.α (setC s2 a (.dK (dr l' k'))).M.length v _
            rw [setC_len]; exact z3
        · exact False.elim p2
      · exact False.elim p2
    · exact False.elim p1)
/-- d.get(k), d.get(k, x) -/
def fGet (s : Stt) (a : AI) (i x : D) : Ro AI := match viewD s a with
  | some l => match keyOf i with
    | some k => .ok (.val ((vl l k).getD x)) s
    | none => .no
  | none => .no
def mGet2 (mo mi mx : Mo AI) : Mo AI := fun s => (mo s).bind fun a s1 => match viewD s1 a with
  | some _ => (mV mi s1).bind fun i s2 => (mV mx s2).bind fun x s3 => fGet s3 a i x
  | none => .no
theorem ei_get2 {td ty tx : TE} {mo mi mx : Mo AI} (ho : Ei K ct H0 W td mo) (hi : Ei K ct H0 W ty mi) (hx : Ei K ct H0 W tx mx) : Ei K ct H0 W (tDGet2 td ty tx) (mGet2 mo mi mx) := fun S s σ H Q rel p =>
  ho S s σ H _ rel (Pst.bind bI p fun S1 s1 H1 x a st1 rel1 i1 p1 => by
    split at p1
    · rename_i l e
      obtain ⟨q, kvs, rfl, h1, h2⟩ := viewD_ok rel1 i1 e
      refine ⟨q, rfl, .inl ⟨kvs, h1⟩, ev_of hi S1 s1 σ H1 _ rel1 (Pst.bind bI p1 fun S2 s2 H2 y i st2 rel2 i2 p2 => ev_of hx S2 s2 σ H2 _ rel2 (Pst.bind bI p2 fun S3 s3 H3 z xd st3 rel3 i3 p3 => ?_))⟩
      unfold fGet at p3
      split at p3
      · rename_i l' e'
        split at p3
        · rename_i k ek
          obtain ⟨q', kvs', eq', g1, g2⟩ := viewD_ok rel3 ((i1.step st2).step st3) e'
          cases eq'
          rw [keyOf_rp i2 ek]
          rcases dget_ok (k := k) g1 g2 with ⟨z1, z2⟩ | ⟨v, d0, z1, z2, z3⟩
          · rw [z1] at p3; exact ⟨none, z2, p3.val rel3 i3⟩
          · rw [z1] at p3; exact ⟨some v, z2, p3.val rel3 z3⟩
        · exact False.elim p3
      · exact False.elim p3
    · exact False.elim p1)
end
end Y
namespace Y
open PySem L2 Z
theorem u65 {A : Around} {k : Nat} (hr : Room k A) : A.units + 65 < cLine := by have := hr.un; omega
theorem u66 {A : Around} {k : Nat} (hr : Room k A) : A.units + 70 < cLine := by have := hr.un; omega
theorem rpl_ints {K : PySem.W.Frag} {G : Hp} {α : Nat → Addr} {n : Nat} : ∀ ns : List Int, RpL K G α n (ns.map V.int) (ns.map D.int)
  | [] => .nil
  | i :: ns => .cons (.int i) (rpl_ints ns)
end Y

namespace Y
open PySem L2 Z
/-! ## proofs about mirrors -/
/-- the next turn is reached -/
def Nx (P : Stt → Prop) : Rs → Prop
  | .nx s => P s
  | .ct s => P s
  | _ => False
/-- the next turn is reached, or it is handed back -/
def Nr (P : Stt → Prop) (R : AI → Stt → Prop) : Rs → Prop
  | .nx s => P s
  | .ct s => P s
  | .rt a s => R a s
  | _ => False
def So {α : Type} (P : α → Prop) : Option α → Prop
  | some s => P s
  | none => False
def Ok {α : Type} (P : α → Stt → Prop) : Ro α → Prop
  | .ok a s => P a s
  | _ => False
def Fo (P : AI → List Cn → Prop) : Fr → Prop
  | .ok a M => P a M
  | _ => False
theorem chk_none {s : Stt} : chk none s := trivial
theorem forN_nil {g : Tg} {b : Ms} {s : Stt} : forN g b none [] s = .nx s := by unfold forN; rw [if_pos chk_none]
theorem forN_cons {g : Tg} {b : Ms} {s s1 : Stt} {x : D} {xs : List D} (h : g x s = some s1) : forN g b none (x :: xs) s = (match b s1 with
      | .nx s2 => forN g b none xs s2
      | .ct s2 => forN g b none xs s2
      | .bk s2 => .nx s2
      | .rt a s2 => .rt a s2
      | .er x s2 => .er x s2
      | .no => .no) := by
  conv => lhs; unfold forN
  rw [if_pos chk_none, h] <;> rfl
theorem for_inv {g : Tg} {b : Ms} {xs : List D} {s : Stt} (P : Nat → Stt → Prop) (h0 : P 0 s) (hs : ∀ i x s, xs[i]? = some x → P i s → So (fun s1 => Nx (P (i + 1)) (b s1)) (g x s)) : ∃ s', forN g b none xs s = .nx s' ∧ P xs.length s' := by
  induction xs generalizing P s with
  | nil => exact ⟨s, forN_nil, h0⟩
  | cons x xs ih =>
    have h1 := hs 0 x s rfl h0
    cases hg : g x s with
    | none => rw [hg] at h1; exact False.elim h1
    | some s1 =>
      rw [hg] at h1
      have h1 : Nx (P 1) (b s1) := h1
      rw [forN_cons hg]
      cases hb : b s1 with
      | nx s2 => rw [hb] at h1; exact ih (fun i => P (i + 1)) h1 fun i y s e => hs (i + 1) y s e
      | ct s2 => rw [hb] at h1; exact ih (fun i => P (i + 1)) h1 fun i y s e => hs (i + 1) y s e
      | bk s2 => rw [hb] at h1; exact False.elim h1
      | rt a s2 => rw [hb] at h1; exact False.elim h1
      | er x s2 => rw [hb] at h1; exact False.elim h1
      | no => rw [hb] at h1; exact False.elim h1
theorem for_ret {g : Tg} {b : Ms} {xs : List D} {s : Stt} (P : Nat → Stt → Prop) (R : AI → Stt → Prop) (h0 : P 0 s) (hs : ∀ i x s, xs[i]? = some x → P i s → So (fun s1 => Nr (P (i + 1)) R (b s1)) (g x s)) : (∃ s', forN g b none xs s = .nx s' ∧ P xs.length s') ∨ ∃ a s', forN g b none xs s = .rt a s' ∧ R a s' := by
  induction xs generalizing P s with
  | nil => exact .inl ⟨s, forN_nil, h0⟩
  | cons x xs ih =>
    have h1 := hs 0 x s rfl h0
    cases hg : g x s with
    | none => rw [hg] at h1; exact False.elim h1
    | some s1 =>
      rw [hg] at h1
      have h1 : Nr (P 1) R (b s1) := h1
      rw [forN_cons hg]
      cases hb : b s1 with
      | nx s2 => rw [hb] at h1; exact ih (fun i => P (i + 1)) h1 fun i y s e => hs (i + 1) y s e
      | ct s2 => rw [hb] at h1; exact ih (fun i => P (i + 1)) h1 fun i y s e => hs (i + 1) y s e
      | rt a s2 => rw [hb] at h1; exact .inr ⟨a, s2, rfl, h1⟩
      | bk s2 => rw [hb] at h1; exact False.elim h1
      | er x s2 => rw [hb] at h1; exact False.elim h1
      | no => rw [hb] at h1; exact False.elim h1
theorem wh_inv {c : Mo Bool} {b : Ms} {s : Stt} (P : Nat → Stt → Prop) (E : Stt → Prop) (n : Nat) (h0 : P n s) (hs : ∀ n s, P n s → Ok (fun k s1 => if k = true then Nx (fun s2 => ∃ m, m < n ∧ P m s2) (b s1) else E s1) (c s)) : ∃ s', mWh c b s = .nx s' ∧ E s' := by
  have key : ∀ n s, P n s → ∃ s' k, whN c b k s = .nx s' ∧ E s' := by
    intro n
    induction n using Nat.strongRecOn with
    | ind n ih =>
      intro s h
      have h1 := hs n s h
      cases hc : c s with
      | no => rw [hc] at h1; exact False.elim h1
      | er x s1 => rw [hc] at h1; exact False.elim h1
      | ok k s1 =>
        rw [hc] at h1
        have h1 : if k = true then Nx (fun s2 => ∃ m, m < n ∧ P m s2) (b s1) else E s1 := h1
        cases k with
        | false =>
          rw [if_neg Bool.false_ne_true] at h1
          exact ⟨s1, 1, by unfold whN; rw [hc]; rfl, h1⟩
        | true =>
          rw [if_pos rfl] at h1
          cases hb : b s1 with
          | nx s2 =>
            rw [hb] at h1
            obtain ⟨m, hm, hp⟩ := h1
            obtain ⟨s', k, e, he⟩ := ih m hm s2 hp
            refine ⟨s', k + 1, ?_, he⟩
            unfold whN; rw [hc]
            show (if true = true then (match b s1 with | .nx s2 => whN c b k s2 | .ct s2 => whN c b k s2 | .bk s2 => .nx s2 | .rt a s2 => .rt a s2 | .er x s2 => .er x s2 | .no => .no) else Rs.nx s1) = _
            rw [if_pos rfl, hb]; exact e
          | ct s2 =>
            rw [hb] at h1
            obtain ⟨m, hm, hp⟩ := h1
            obtain ⟨s', k, e, he⟩ := ih m hm s2 hp
            refine ⟨s', k + 1, ?_, he⟩
            unfold whN; rw [hc]
            show (if true = true then (match b s1 with | .nx s2 => whN c b k s2 | .ct s2 => whN c b k s2 | .bk s2 => .nx s2 | .rt a s2 => .rt a s2 | .er x s2 => .er x s2 | .no => .no) else Rs.nx s1) = _
            rw [if_pos rfl, hb]; exact e
          | bk s2 => rw [hb] at h1; exact False.elim h1
          | rt a s2 => rw [hb] at h1; exact False.elim h1
          | er x s2 => rw [hb] at h1; exact False.elim h1
          | no => rw [hb] at h1; exact False.elim h1
  obtain ⟨s', k, e, he⟩ := key n s h0
  exact ⟨s', mWh_eq e (by intro z; cases z), he⟩
/-- a comprehension, by what holds of each part: the state comes back -/
theorem lc_map {ws : List Nat} {g : Tg} {e : Mo D} {s : Stt} {xs : List D} (f : D → D) (hz : xs.length ≤ sizeLine) (h : ∀ x ∈ xs, So (fun s1 => Ok (fun d s2 => d = f x ∧ wipeS ws s2 = s) (e s1)) (g x s)) : ∀ acc : List D, acc.length + xs.length ≤ sizeLine → lcN ws g mYes e none xs acc s = .ok (acc ++ xs.map f) s := by
  induction xs with
  | nil => intro acc _; unfold lcN; rw [if_pos chk_none, List.map_nil, List.append_nil]
  | cons x xs ih =>
    intro acc ha
    have h1 := h x (by simp)
    unfold lcN
    rw [if_pos chk_none]
    cases hg : g x s with
    | none => rw [hg] at h1; exact False.elim h1
    | some s1 =>
      rw [hg] at h1
      have h1 : Ok (fun d s2 => d = f x ∧ wipeS ws s2 = s) (e s1) := h1
      show (if true = true then (match e s1 with | .ok d s3 => if acc.length < sizeLine then lcN ws g mYes e none xs (acc ++ [d]) (wipeS ws s3) else .no | _ => .no) else _) = _
      rw [if_pos rfl]
      cases he : e s1 with
      | no => rw [he] at h1; exact False.elim h1
      | er x s2 => rw [he] at h1; exact False.elim h1
      | ok d s2 =>
        rw [he] at h1
        obtain ⟨rfl, h3⟩ := h1
        have hl : acc.length < sizeLine := by rw [List.length_cons] at ha; omega
        show (if acc.length < sizeLine then lcN ws g mYes e none xs (acc ++ [f x]) (wipeS ws s2) else .no) = _
        rw [if_pos hl, h3, ih (by rw [List.length_cons] at hz; omega) (fun y hy => h y (by simp [hy])) _ (by rw [List.length_append, List.length_cons, List.length_nil]; rw [List.length_cons] at ha; omega), List.append_assoc]
        rfl
/-- .. with a test -/
theorem lc_filter {ws : List Nat} {g : Tg} {c : Mo Bool} {e : Mo D} {s : Stt} {xs : List D} (p : D → Bool) (f : D → D) (hz : xs.length ≤ sizeLine) (h : ∀ x ∈ xs, So (fun s1 => Ok (fun b s2 => b = p x ∧ if b = true then Ok (fun d s3 => d = f x ∧ wipeS ws s3 = s) (e s2) else wipeS ws s2 = s) (c s1)) (g x s)) : ∀ acc : List D, acc.length + xs.length ≤ sizeLine → lcN ws g c e none xs acc s = .ok (acc ++ (xs.filter p).map f) s := by
  induction xs with
  | nil => intro acc _; unfold lcN; rw [if_pos chk_none, List.filter_nil, List.map_nil, List.append_nil]
  | cons x xs ih =>
    intro acc ha
    have h1 := h x (by simp)
    unfold lcN
    rw [if_pos chk_none]
    have ih' := ih (by rw [List.length_cons] at hz; omega) (fun y hy => h y (by simp [hy]))
    cases hg : g x s with
    | none => rw [hg] at h1; exact False.elim h1
    | some s1 =>
      rw [hg] at h1
      have h1 : Ok (fun b s2 => b = p x ∧ if b = true then Ok (fun d s3 => d = f x ∧ wipeS ws s3 = s) (e s2) else wipeS ws s2 = s) (c s1) := h1
      show (match c s1 with | .ok b s2 => if b = true then (match e s2 with | .ok d s3 => if acc.length < sizeLine then lcN ws g c e none xs (acc ++ [d]) (wipeS ws s3) else .no | _ => .no) else lcN ws g c e none xs acc (wipeS ws s2) | _ => .no) = _
      cases hc : c s1 with
      | no => rw [hc] at h1; exact False.elim h1
      | er x s2 => rw [hc] at h1; exact False.elim h1
      | ok b s2 =>
        rw [hc] at h1
        obtain ⟨hb, h1⟩ := h1
        show (if b = true then (match e s2 with | .ok d s3 => if acc.length < sizeLine then lcN ws g c e none xs (acc ++ [d]) (wipeS ws s3) else .no | _ => .no) else lcN ws g c e none xs acc (wipeS ws s2)) = _
        cases b with
        | false =>
          rw [if_neg Bool.false_ne_true] at h1 ⊢
          rw [h1, ih' acc (by rw [List.length_cons] at ha; omega), List.filter_cons_of_neg (by rw [← hb]; exact Bool.false_ne_true)]
        | true =>
          rw [if_pos rfl] at h1 ⊢
          cases he : e s2 with
          | no => rw [he] at h1; exact False.elim h1
          | er x s2 => rw [he] at h1; exact False.elim h1
          | ok d s3 =>
            rw [he] at h1
            obtain ⟨rfl, h3⟩ := h1
            have hl : acc.length < sizeLine := by rw [List.length_cons] at ha; omega
            show (if acc.length < sizeLine then lcN ws g c e none xs (acc ++ [f x]) (wipeS ws s3) else .no) = _
            rw [if_pos hl, h3, ih' _ (by rw [List.length_append, List.length_cons, List.length_nil]; rw [List.length_cons] at ha; omega), List.filter_cons_of_pos (by rw [← hb]), List.map_cons, List.append_assoc]
            rfl
/-- .. by an invariant (the state may change; what is told of the items) -/
theorem lc_inv {ws : List Nat} {g : Tg} {e : Mo D} {s : Stt} {xs : List D} (P : Nat → List D → Stt → Prop) (acc : List D) (h0 : P 0 acc s) (hz : acc.length + xs.length ≤ sizeLine) (h : ∀ i x acc s, xs[i]? = some x → P i acc s → So (fun s1 => Ok (fun d s2 => P (i + 1) (acc ++ [d]) (wipeS ws s2)) (e s1)) (g x s)) : ∃ l s', lcN ws g mYes e none xs acc s = .ok l s' ∧ P xs.length l s' := by
  induction xs generalizing P acc s with
  | nil => exact ⟨acc, s, by unfold lcN; rw [if_pos chk_none], h0⟩
  | cons x xs ih =>
    have h1 := h 0 x acc s rfl h0
    unfold lcN
    rw [if_pos chk_none]
    cases hg : g x s with
    | none => rw [hg] at h1; exact False.elim h1
    | some s1 =>
      rw [hg] at h1
      have h1 : Ok (fun d s2 => P 1 (acc ++ [d]) (wipeS ws s2)) (e s1) := h1
      show ∃ l s', (if true = true then (match e s1 with | .ok d s3 => if acc.length < sizeLine then lcN ws g mYes e none xs (acc ++ [d]) (wipeS ws s3) else .no | _ => .no) else _) = _ ∧ _
      rw [if_pos rfl]
      cases he : e s1 with
      | no => rw [he] at h1; exact False.elim h1
      | er x s2 => rw [he] at h1; exact False.elim h1
      | ok d s2 =>
        rw [he] at h1
        have hl : acc.length < sizeLine := by rw [List.length_cons] at hz; omega
        show ∃ l s', (if acc.length < sizeLine then lcN ws g mYes e none xs (acc ++ [d]) (wipeS ws s2) else .no) = _ ∧ _
        rw [if_pos hl]
        exact ih (fun i => P (i + 1)) (acc ++ [d]) h1 (by rw [List.length_append, List.length_cons, List.length_nil]; rw [List.length_cons] at hz; omega) fun i y acc s e => h (i + 1) y acc s e
/-! ### rows of whole numbers -/
theorem intsD_map (ns : List Int) : intsD (ns.map D.int) = some ns := by
  induction ns with
  | nil => rfl
  | cons n ns ih => show (intsD (ns.map D.int)).map (n :: ·) = _; rw [ih]; rfl
theorem blsD_map (ns : List Bool) : blsD (ns.map D.bl) = some ns := by
  induction ns with
  | nil => rfl
  | cons n ns ih => show (blsD (ns.map D.bl)).map (n :: ·) = _; rw [ih]; rfl
theorem pyL_ints (ns : List Int) : D.pyL (ns.map D.int) = some (ns.map PyData.int) := by
  induction ns with
  | nil => rfl
  | cons n ns ih => show (D.py (.int n)).bind (fun x => (D.pyL (ns.map D.int)).map (x :: ·)) = _; rw [ih]; rfl
theorem atI_map {β : Type} (f : β → D) (l : List β) (i : Int) : atI (l.map f) i = (atI l i).map f := by
  unfold atI
  rw [List.length_map]
  cases ixN l.length i with
  | none => rfl
  | some j => show (l.map f)[j]? = (l[j]?).map f; rw [List.getElem?_map]
theorem atI_nn {β : Type} {l : List β} {i : Int} (h : 0 ≤ i) : atI l i = l[i.toNat]? := by
  unfold atI ixN
  rw [if_pos h]
  by_cases q : i < l.length
  · rw [if_pos q]; rfl
  · rw [if_neg q]; show none = _; rw [List.getElem?_eq_none_iff.mpr (by omega)]
theorem atI_int {ns : List Int} {i : Int} (h0 : 0 ≤ i) (h1 : i < ns.length) : atI (ns.map D.int) i = some (.int (ns.getD i.toNat 0)) := by
  rw [atI_nn h0, List.getElem?_map, List.getElem?_eq_getElem (by omega : i.toNat < ns.length)]
  simp [List.getD, (by omega : i.toNat < ns.length)]
theorem cutL_map {β γ : Type} (f : β → γ) (l : List β) (lo hi : Option Int) : cutL (l.map f) lo hi = (cutL l lo hi).map f := by
  unfold cutL; rw [List.length_map, List.map_take, List.map_drop]
theorem cutL_from {β : Type} (xs : List β) {i : Int} (h : 0 ≤ i) : cutL xs (some i) none = xs.drop i.toNat := by
  unfold cutL
  have e1 : HT.sIx xs.length xs.length none = xs.length := rfl
  have e2 : HT.sIx xs.length 0 (some i) = min i.toNat xs.length := if_neg (by omega)
  rw [e1, e2]
  by_cases l : i.toNat ≤ xs.length
  · rw [Nat.min_eq_left l, List.take_of_length_le (by rw [List.length_drop]; exact Nat.le_refl _)]
  · rw [Nat.min_eq_right (by omega), Nat.sub_self, List.take_zero, List.drop_eq_nil_of_le (by omega)]
theorem cutL_to {β : Type} (xs : List β) {i : Int} (h : 0 ≤ i) : cutL xs none (some i) = xs.take i.toNat := by
  unfold cutL
  have e1 : HT.sIx xs.length 0 none = 0 := rfl
  have e2 : HT.sIx xs.length xs.length (some i) = min i.toNat xs.length := if_neg (by omega)
  rw [e1, e2, List.drop_zero, Nat.sub_zero]
  by_cases l : i.toNat ≤ xs.length
  · rw [Nat.min_eq_left l]
  · rw [Nat.min_eq_right (by omega), List.take_of_length_le (Nat.le_refl _), List.take_of_length_le (by omega)]
theorem cutL_part {β : Type} (xs : List β) {i j : Int} (h : 0 ≤ i) (h' : 0 ≤ j) : cutL xs (some i) (some j) = (xs.drop i.toNat).take (j.toNat - i.toNat) := by
  unfold cutL
  have e1 : HT.sIx xs.length xs.length (some j) = min j.toNat xs.length := if_neg (by omega)
  have e2 : HT.sIx xs.length 0 (some i) = min i.toNat xs.length := if_neg (by omega)
  rw [e1, e2]
  by_cases l : i.toNat ≤ xs.length
  · rw [Nat.min_eq_left l]
    by_cases l2 : j.toNat ≤ xs.length
    · rw [Nat.min_eq_left l2]
    · rw [Nat.min_eq_right (by omega), List.take_of_length_le (by rw [List.length_drop]; exact Nat.le_refl _), List.take_of_length_le (by rw [List.length_drop]; omega)]
  · rw [Nat.min_eq_right (a := i.toNat) (by omega), List.drop_eq_nil_of_le (Nat.le_refl _), List.drop_eq_nil_of_le (by omega), List.take_nil, List.take_nil]
theorem rng_get {lo : Int} {n i : Nat} {d : D} (h : (rng lo n)[i]? = some d) : i < n ∧ d = .int (lo + i) := by
  unfold rng at h
  rw [List.getElem?_map] at h
  obtain ⟨j, e1, rfl⟩ := Option.map_eq_some_iff.mp h
  obtain ⟨hlt, ej⟩ := List.getElem?_eq_some_iff.mp e1
  rw [List.getElem_range] at ej
  rw [List.length_range] at hlt
  subst ej
  exact ⟨hlt, rfl⟩
theorem rng_len {lo : Int} {n : Nat} : (rng lo n).length = n := by unfold rng; rw [List.length_map, List.length_range]
theorem map_get {β : Type} {f : β → D} {l : List β} {i : Nat} {d : D} (h : (l.map f)[i]? = some d) : ∃ x, l[i]? = some x ∧ d = f x := by
  rw [List.getElem?_map] at h
  obtain ⟨x, e, rfl⟩ := Option.map_eq_some_iff.mp h
  exact ⟨x, e, rfl⟩
theorem enum_get {l : List D} {i : Nat} {d : D} (h : (enumL l)[i]? = some d) : ∃ x, l[i]? = some x ∧ d = .tup [.int (i : Nat), x] := by
  unfold enumL at h
  rw [List.getElem?_map, List.getElem?_zipIdx] at h
  obtain ⟨pr, e2, rfl⟩ := Option.map_eq_some_iff.mp h
  obtain ⟨y, e3, rfl⟩ := Option.map_eq_some_iff.mp e2
  exact ⟨y, e3, by rw [Nat.zero_add]⟩
theorem enum_len {l : List D} : (enumL l).length = l.length := by unfold enumL; rw [List.length_map, List.length_zipIdx]
theorem shaped_int (i : Int) : SeqAt.shaped (.int i) = true := rfl
theorem shaped_bool (b : Bool) : SeqAt.shaped (.bool b) = true := rfl
theorem shaped_none : SeqAt.shaped .none = true := rfl
theorem eqv_int (i j : Int) : PyData.eqv (.int i) (.int j) = decide (i = j) := by
  show (i == j) = _
  by_cases h : i = j
  · subst h; simp
  · simp [h]
theorem eqv_bool (i j : Bool) : PyData.eqv (.bool i) (.bool j) = (i == j) := rfl
theorem eqv_lints (ns ms : List Int) : PyData.eqv (.list (ns.map PyData.int)) (.list (ms.map PyData.int)) = decide (ns = ms) := Z.eqv_ints ns ms
theorem shaped_lints (ns : List Int) : SeqAt.shaped (.list (ns.map PyData.int)) = true := Z.shaped_ints ns
end Y

namespace Y
open PySem L2 Z
/-! ## mirrors, step by step -/
def Wo {α : Type} (Q : α → Stt → Prop) (X : Exn → Stt → Prop) : Ro α → Prop
  | .ok a s => Q a s
  | .er x s => X x s
  | .no => False
def Ws (N : Stt → Prop) (O : Rs → Prop) : Rs → Prop
  | .nx s => N s
  | .no => False
  | r => O r
abbrev Xf : Exn → Stt → Prop := fun _ _ => False
section
variable {α β : Type} {Q : α → Stt → Prop} {QA : AI → Stt → Prop} {QD : D → Stt → Prop} {QL : List AI → Stt → Prop} {QV : List D → Stt → Prop} {QB : Bool → Stt → Prop} {QO : Option Int → Stt → Prop} {QI : Im → Stt → Prop} {X : Exn → Stt → Prop} {N : Stt → Prop} {O : Rs → Prop} {s : Stt} {i j : Nat} {m m1 m2 m3 : Mo AI} {env : List (Option Ent)} {M : List Cn}
theorem w_bind {r : Ro β} {f : β → Mo α} (h : Wo (fun a s => Wo Q X (f a s)) X r) : Wo Q X (r.bind f) := by cases r <;> exact h
theorem w_toS {r : Ro β} {f : β → Ms} (h : Wo (fun a s => Ws N O (f a s)) (fun x s => O (.er x s)) r) : Ws N O (r.toS f) := by cases r <;> exact h
theorem w_mono {Q' : α → Stt → Prop} {r : Ro α} (h : Wo Q X r) (k : ∀ a s, Q a s → Q' a s) : Wo Q' X r := by
  cases r with
  | ok a s => exact k _ _ h
  | er x s => exact h
  | no => exact h
theorem w_seq {a b : Ms} (h : Ws (fun s1 => Ws N O (b s1)) O (a s)) : Ws N O (mSeq a b s) := by
  unfold mSeq
  cases q : a s <;> rw [q] at h <;> exact h
/-- the ways meet again at R -/
theorem w_join {a b : Ms} (R : Stt → Prop) (h : Ws R O (a s)) (k : ∀ s, R s → Ws N O (b s)) : Ws N O (mSeq a b s) := by
  unfold mSeq
  cases q : a s with
  | nx s1 => rw [q] at h; exact k s1 h
  | _ => rw [q] at h; exact h
theorem w_wk {R : Stt → Prop} {r : Rs} (h : Ws R O r) (k : ∀ s, R s → N s) : Ws N O r := by
  cases r with
  | nx s => exact k s h
  | _ => exact h
theorem w_next (h : N s) : Ws N O (mNext s) := h
theorem w_brk (h : O (.bk s)) : Ws N O (mBrk s) := h
theorem w_cnt (h : O (.ct s)) : Ws N O (mCnt s) := h
theorem w_drop (h : Wo (fun _ s1 => N s1) (fun x s => O (.er x s)) (m s)) : Ws N O (mDrop m s) := w_toS h
theorem w_ifS {c : Mo Bool} {a b : Ms} (h : Wo (fun k s1 => if k = true then Ws N O (a s1) else Ws N O (b s1)) (fun x s => O (.er x s)) (c s)) : Ws N O (mIfS c a b s) := w_toS (w_mono h fun k s h => by cases k <;> exact h)
theorem w_asg (h : Wo (fun a s1 => Ws N O (asg i a s1)) (fun x s => O (.er x s)) (m s)) : Ws N O (mAsg i m s) := w_toS h
theorem w_asgV {d : D} (h : N ⟨s.env.set i (some (.fz d)), s.M⟩) : Ws N O (asg i (.val d) s) := h
theorem w_asgN {c : Cn} (h : N ⟨s.env.set i (some (.ow c)), s.M⟩) : Ws N O (asg i (.new c) s) := h
theorem w_asgI {c : Cn} (e : entAt s j = some (.ow c)) (h : N ⟨(s.env.set j (some (.fz c.toD))).set i (some (.fz c.toD)), s.M⟩) : Ws N O (asg i (.slot j) s) := by
  show Ws N O ((match entAt s j with | some (.ow c) => Ro.ok c.toD ⟨s.env.set j (some (.fz c.toD)), s.M⟩ | some (.fz d) => Ro.ok d s | _ => Ro.no).toS fun d s1 => .nx ⟨s1.env.set i (some (.fz d)), s1.M⟩)
  rw [e]; exact h
theorem w_ret (h : Wo (fun a s1 => Ws N O (Y.ret a s1)) (fun x s => O (.er x s)) (m s)) : Ws N O (mRet m s) := w_toS h
theorem w_retV {d : D} (h : O (.rt (.val d) s)) : Ws N O (Y.ret (.val d) s) := h
theorem w_retN' {c : Cn} (h : O (.rt (.new c) s)) : Ws N O (Y.ret (.new c) s) := h
theorem w_retS {c : Cn} (e : entAt s j = some (.ow c)) (h : O (.rt (.new c) ⟨s.env.set j none, s.M⟩)) : Ws N O (Y.ret (.slot j) s) := by
  show Ws N O (match entAt s j with | some (.ow c) => .rt (.new c) ⟨s.env.set j none, s.M⟩ | some (.fz d) => .rt (.val d) s | _ => .no)
  rw [e]; exact h
theorem w_retN (h : O (.rt (.val .non) s)) : Ws N O (mRetN s) := h
theorem w_nameF {d : D} (e : entAt s i = some (.fz d)) (h : QA (.val d) s) : Wo QA X (mName i s) := by unfold mName; rw [e]; exact h
theorem w_nameO {c : Cn} (e : entAt s i = some (.ow c)) (h : QA (.slot i) s) : Wo QA X (mName i s) := by unfold mName; rw [e]; exact h
theorem w_c {d : D} (h : QA (.val d) s) : Wo QA X (mC d s) := h
theorem w_op {f : Stt → AI → AI → Ro AI} (h : Wo (fun a s1 => Wo (fun b s2 => Wo QA X (f s2 a b)) X (m2 s1)) X (m1 s)) : Wo QA X (mOp f m1 m2 s) := w_bind (w_mono h fun _ _ h => w_bind h)
theorem w_un {f : Stt → AI → Ro AI} (h : Wo (fun a s1 => Wo QA X (f s1 a)) X (m1 s)) : Wo QA X (mUn f m1 s) := w_bind h
theorem w_I0 {g : Int → Int → D} {i j : Int} (h : QA (.val (g i j)) s) : Wo QA X (fI0 g s (.val (.int i)) (.val (.int j))) := h
theorem w_I {C : Int → Int → Prop} {g : Int → Int → D} {i j : Int} (c : C i j) (h : QA (.val (g i j)) s) : Wo QA X (fI C g s (.val (.int i)) (.val (.int j))) := by
  unfold fI; simp only []; rw [if_pos c]; exact h
theorem w_addI {i j : Int} (h : QA (.val (.int (i + j))) s) : Wo QA X (fAdd s (.val (.int i)) (.val (.int j))) := h
theorem w_addS {x y : Str} (c : x.length + y.length ≤ sizeLine) (h : QA (.val (.str (x ++ y))) s) : Wo QA X (fAdd s (.val (.str x)) (.val (.str y))) := by
  unfold fAdd; simp only []; rw [if_pos c]; exact h
def noS : AI → Bool
  | .val (.int _) => false
  | .val (.str _) => false
  | _ => true
theorem w_addL {a b : AI} {l l' : List D} (n : noS a = true) (e1 : viewL s a = some l) (e2 : viewL s b = some l') (c : l.length + l'.length ≤ sizeLine) (h : QA (.new (.lst (l ++ l'))) s) : Wo QA X (fAdd s a b) := by
  unfold fAdd
  split
  · cases n
  · cases n
  · rw [e1, e2]; simp only []; rw [if_pos c]; exact h
theorem w_mulI {i j : Int} (c : CMul i j) (h : QA (.val (.int (i * j))) s) : Wo QA X (fMul s (.val (.int i)) (.val (.int j))) := by
  unfold fMul; simp only []; rw [if_pos c]; exact h
theorem w_mulL {a : AI} {l : List D} {j : Int} (n : noS a = true) (e1 : viewX s a = some l) (c : -(2 ^ 63) ≤ j ∧ j < 2 ^ 63 ∧ l.length * j.toNat ≤ sizeLine) (h : QA (.new (.lst (List.replicate j.toNat l).flatten)) s) : Wo QA X (fMul s a (.val (.int j))) := by
  unfold fMul
  split
  · cases n
  · rename_i heq; cases heq; rw [e1]; simp only []; rw [if_pos c]; exact h
  · rename_i h1 h2; first | exact (h1 _ rfl).elim | exact (h2 _ rfl).elim | exact (h1 _ _ rfl).elim | exact (h2 _ _ rfl).elim
theorem w_eqI {i j : Int} (h : QA (.val (.bl (decide (i = j)))) s) : Wo QA X (fEq s (.val (.int i)) (.val (.int j))) := by
  show Wo QA X (.ok (.val (.bl (PyData.eqv (.int i) (.int j)))) s)
  rw [eqv_int]; exact h
theorem w_neI {i j : Int} (h : QA (.val (.bl (!decide (i = j)))) s) : Wo QA X (fNe s (.val (.int i)) (.val (.int j))) := by
  show Wo QA X (.ok (.val (.bl (!PyData.eqv (.int i) (.int j)))) s)
  rw [eqv_int]; exact h
theorem w_eq {a b : AI} {k : Bool} (e : eqOf s a b = some k) (h : QA (.val (.bl k)) s) : Wo QA X (fEq s a b) := by unfold fEq; rw [e]; exact h
theorem w_ne {a b : AI} {k : Bool} (e : eqOf s a b = some k) (h : QA (.val (.bl (!k))) s) : Wo QA X (fNe s a b) := by unfold fNe; rw [e]; exact h
theorem eqOf_of {a b : AI} {x y : PyData} {k : Bool} (e1 : pyOf s a = some x) (e2 : pyOf s b = some y) (h1 : SeqAt.shaped x = true) (h2 : SeqAt.shaped y = true) (e : x.eqv y = k) : eqOf s a b = some k := by
  unfold eqOf; rw [e1, e2]; show (if SeqAt.shaped x && SeqAt.shaped y then some (x.eqv y) else none) = _
  rw [h1, h2, e]; rfl
theorem py_ints {d : D} {ns : List Int} (h : d = .lst (ns.map D.int) ∨ d = .clst (ns.map D.int)) : d.py = some (.list (ns.map PyData.int)) := by
  rcases h with rfl | rfl
  · show (D.pyL (ns.map D.int)).map PyData.list = _; rw [pyL_ints]; rfl
  · show (D.pyL (ns.map D.int)).map PyData.list = _; rw [pyL_ints]; rfl
theorem eqOf_ints {a b : AI} {d d' : D} {ns ms : List Int} (e1 : (look s a).bind (deref s.M) = some d) (e2 : (look s b).bind (deref s.M) = some d') (h1 : d = .lst (ns.map D.int) ∨ d = .clst (ns.map D.int)) (h2 : d' = .lst (ms.map D.int) ∨ d' = .clst (ms.map D.int)) : eqOf s a b = some (decide (ns = ms)) := by
  refine eqOf_of (x := .list (ns.map PyData.int)) (y := .list (ms.map PyData.int)) ?_ ?_ (shaped_lints ns) (shaped_lints ms) (eqv_lints ns ms)
  · unfold pyOf; rw [e1]; exact py_ints h1
  · unfold pyOf; rw [e2]; exact py_ints h2
theorem w_isB {x y : Bool} (h : QA (.val (.bl (x == y))) s) : Wo QA X (fIs s (.val (.bl x)) (.val (.bl y))) := h
theorem w_isnB {x y : Bool} (h : QA (.val (.bl (!(x == y)))) s) : Wo QA X (fIsn s (.val (.bl x)) (.val (.bl y))) := h
theorem isOf_n {a : AI} {d : D} (e : look s a = some d) : isOf s a (.val .non) = some d.isN := by
  unfold isOf
  split
  · rename_i h; cases h
  · rw [e]; rfl
  · rename_i h1 h2; first | exact (h1 rfl).elim | exact (h2 rfl).elim
theorem w_isN {a : AI} {d : D} (e : look s a = some d) (h : QA (.val (.bl d.isN)) s) : Wo QA X (fIs s a (.val .non)) := by unfold fIs; rw [isOf_n e]; exact h
theorem w_isnN {a : AI} {d : D} (e : look s a = some d) (h : QA (.val (.bl (!d.isN))) s) : Wo QA X (fIsn s a (.val .non)) := by unfold fIsn; rw [isOf_n e]; exact h
theorem w_ixL {a : AI} {l : List D} {i : Int} {d : D} (n : noS a = true) (e0 : viewD s a = none) (e1 : viewL s a = some l) (e2 : atI l i = some d) (h : QA (.val d) s) : Wo QA X (fIxY s a (.val (.int i))) := by
  unfold fIxY; rw [e0]; simp only []
  unfold fIx; simp only []
  split
  · cases n
  · rw [e1]; simp only []; rw [e2]; exact h
theorem w_ixT {a : AI} {l : List D} {i : Int} {d : D} (n : noS a = true) (e0 : viewD s a = none) (e3 : viewL s a = none) (e1 : viewT s a = some l) (e2 : atI l i = some d) (h : QA (.val d) s) : Wo QA X (fIxY s a (.val (.int i))) := by
  unfold fIxY; rw [e0]; simp only []
  unfold fIx; simp only []
  split
  · cases n
  · rw [e3]; simp only []; rw [e1]; simp only []; rw [e2]; exact h
theorem w_ixI {a : AI} {ns : List Int} {i : Int} (n : noS a = true) (e0 : viewD s a = none) (e1 : viewL s a = some (ns.map D.int)) (h0 : 0 ≤ i) (h1 : i < ns.length) (h : QA (.val (.int (ns.getD i.toNat 0))) s) : Wo QA X (fIxY s a (.val (.int i))) := w_ixL n e0 e1 (atI_int h0 h1) h
theorem w_ixK {a : AI} {l : List (Key × D)} {i : D} {k : Key} {d : D} (e0 : viewD s a = some l) (ek : keyOf i = some k) (e : vl l k = some d) (h : QA (.val d) s) : Wo QA X (fIxY s a (.val i)) := by
  unfold fIxY; rw [e0]; simp only []
  cases i <;> first | (cases ek; simp only []; rw [e]; exact h) | cases ek
theorem w_tru (h : Wo (fun a s1 => ∃ d b, look s1 a = some d ∧ truD s1.M d = some b ∧ QB b s1) X (m s)) : Wo QB X (mTru m s) := w_bind (w_mono h fun a s1 ⟨d, b, e1, e2, k⟩ => by rw [e1]; show Wo QB X (match truD s1.M d with | some b => Ro.ok b s1 | none => .no); rw [e2]; exact k)
theorem w_bl (h : Wo (fun a s1 => ∃ b, a = .val (.bl b) ∧ QB b s1) X (m s)) : Wo QB X (mBl m s) := w_bind (w_mono h fun a s1 ⟨b, e, k⟩ => by subst e; exact k)
theorem w_blB {b : Bool} (h : QB b s) : ∃ b', AI.val (.bl b) = .val (.bl b') ∧ QB b' s := ⟨b, rfl, h⟩
theorem w_and {c1 c2 : Mo Bool} (h : Wo (fun k s1 => if k = true then Wo QB X (c2 s1) else QB false s1) X (c1 s)) : Wo QB X (mAnd c1 c2 s) := w_bind (w_mono h fun k s1 h => by cases k <;> exact h)
theorem w_or {c1 c2 : Mo Bool} (h : Wo (fun k s1 => if k = true then QB true s1 else Wo QB X (c2 s1)) X (c1 s)) : Wo QB X (mOr c1 c2 s) := w_bind (w_mono h fun k s1 h => by cases k <;> exact h)
theorem w_not {c1 : Mo Bool} (h : Wo (fun k s1 => QB (!k) s1) X (c1 s)) : Wo QB X (mNot c1 s) := w_bind h
theorem w_yes (h : QB true s) : Wo QB X (mYes s) := h
theorem w_andV (h : Wo (fun a s1 => ∃ k, a = .val (.bl k) ∧ if k = true then Wo QA X (m2 s1) else QA (.val (.bl false)) s1) X (m1 s)) : Wo QA X (mAndV m1 m2 s) := w_bind (w_mono h fun a s1 ⟨k, e, h⟩ => by subst e; cases k <;> exact h)
theorem w_orV (h : Wo (fun a s1 => ∃ k, a = .val (.bl k) ∧ if k = true then QA (.val (.bl true)) s1 else Wo QA X (m2 s1)) X (m1 s)) : Wo QA X (mOrV m1 m2 s) := w_bind (w_mono h fun a s1 ⟨k, e, h⟩ => by subst e; cases k <;> exact h)
theorem w_notV (h : Wo (fun a s1 => ∃ k, a = .val (.bl k) ∧ QA (.val (.bl (!k))) s1) X (m1 s)) : Wo QA X (mNotV m1 s) := w_bind (w_mono h fun a s1 ⟨k, e, h⟩ => by subst e; exact h)
theorem w_blV {b : Bool} {P : Bool → Prop} (h : P b) : ∃ k, AI.val (.bl b) = .val (.bl k) ∧ P k := ⟨b, rfl, h⟩
theorem w_ifE {c : Mo Bool} {m1 m2 : Mo α} (h : Wo (fun k s1 => if k = true then Wo Q X (m1 s1) else Wo Q X (m2 s1)) X (c s)) : Wo Q X (mIf c m1 m2 s) := w_bind (w_mono h fun k s1 h => by cases k <;> exact h)
theorem w_chain {f f' : Stt → AI → AI → Ro AI} (h : Wo (fun a s1 => Wo (fun b s2 => Wo (fun z s3 => ∃ k, z = .val (.bl k) ∧ if k = true then Wo (fun c s4 => Wo QA X (f' s4 b c)) X (m3 s3) else QA (.val (.bl false)) s3) X (f s2 a b)) X (m2 s1)) X (m1 s)) : Wo QA X (mChain f f' m1 m2 m3 s) :=
  w_bind (w_mono h fun a s1 h => w_bind (w_mono h fun b s2 h => w_bind (w_mono h fun z s3 ⟨k, e, h⟩ => by subst e; cases k with | true => exact w_bind h | false => exact h)))
theorem w_aNil (h : QL [] s) : Wo QL X (aNil s) := h
theorem w_aCons {r : Mo (List AI)} (h : Wo (fun a s1 => Wo (fun as s2 => QL (a :: as) s2) X (r s1)) X (m s)) : Wo QL X (aCons m r s) := w_bind (w_mono h fun _ _ h => w_bind h)
theorem w_vNil (h : QV [] s) : Wo QV X (vNil s) := h
theorem w_vCons {r : Mo (List D)} (h : Wo (fun d s1 => Wo (fun as s2 => QV (d :: as) s2) X (r s1)) X (mV m s)) : Wo QV X (vCons m r s) := w_bind (w_mono h fun _ _ h => w_bind h)
theorem w_V (h : Wo (fun a s1 => Wo QD X (toV a s1)) X (m s)) : Wo QD X (mV m s) := w_bind h
theorem w_toVV {d : D} (h : QD d s) : Wo QD X (toV (.val d) s) := h
theorem w_toVN {c : Cn} (h : QD c.toD s) : Wo QD X (toV (.new c) s) := h
theorem w_toVS {c : Cn} (e : entAt s i = some (.ow c)) (h : QD c.toD ⟨s.env.set i (some (.fz c.toD)), s.M⟩) : Wo QD X (toV (.slot i) s) := by
  show Wo QD X (match entAt s i with | some (.ow c) => Ro.ok c.toD ⟨s.env.set i (some (.fz c.toD)), s.M⟩ | some (.fz d) => Ro.ok d s | _ => Ro.no)
  rw [e]; exact h
theorem w_lst {r : Mo (List D)} (h : Wo (fun l s1 => l.length ≤ sizeLine ∧ QA (.new (.lst l)) s1) X (r s)) : Wo QA X (mLst r s) := w_bind (w_mono h fun l s1 ⟨c, h⟩ => by show Wo QA X (if _ then _ else _); rw [if_pos c]; exact h)
theorem w_tup {r : Mo (List D)} (h : Wo (fun l s1 => l.length ≤ sizeLine ∧ QA (.val (.tup l)) s1) X (r s)) : Wo QA X (mTup r s) := w_bind (w_mono h fun l s1 ⟨c, h⟩ => by show Wo QA X (if _ then _ else _); rw [if_pos c]; exact h)
theorem w_oNo (h : QO none s) : Wo QO X (oNo s) := h
theorem w_oSm (h : Wo (fun a s1 => ∃ i, a = .val (.int i) ∧ QO (some i) s1) X (m s)) : Wo QO X (oSm m s) := w_bind (w_mono h fun a s1 ⟨i, e, h⟩ => by subst e; exact h)
theorem w_intI {i : Int} {P : Int → Prop} (h : P i) : ∃ k, AI.val (.int i) = .val (.int k) ∧ P k := ⟨i, rfl, h⟩
theorem w_sl {ml mh : Mo (Option Int)} (h : Wo (fun a s1 => Wo (fun l s2 => Wo (fun u s3 => Wo QA X (fSl s3 a l u)) X (mh s2)) X (ml s1)) X (m s)) : Wo QA X (mSl m ml mh s) := w_bind (w_mono h fun _ _ h => w_bind (w_mono h fun _ _ h => w_bind h))
theorem w_slL {a : AI} {l : List D} {lo hi : Option Int} (n : noS a = true) (e : viewL s a = some l) (h : QA (.new (.lst (cutL l lo hi))) s) : Wo QA X (fSl s a lo hi) := by
  unfold fSl
  split
  · cases n
  · rw [e]; exact h
theorem w_slS {x : Str} {lo hi : Option Int} (c : x.length ≤ sizeLine) (h : QA (.val (.str (cutS x lo hi))) s) : Wo QA X (fSl s (.val (.str x)) lo hi) := by
  show Wo QA X (if _ then _ else _); rw [if_pos c]; exact h
theorem w_cb {f : Stt → List AI → Ro AI} {r : Mo (List AI)} (h : Wo (fun as s1 => Wo QA X (f s1 as)) X (r s)) : Wo QA X (mCB f r s) := w_bind h
theorem w_len {a : AI} {d : D} {n : Nat} (e1 : look s a = some d) (e2 : lenD s.M d = some n) (h : QA (.val (.int (n : Int))) s) : Wo QA X (fLen s [a]) := by
  unfold fLen; simp only []; rw [e1]; show Wo QA X (match lenD s.M d with | some n => _ | none => _); rw [e2]; exact h
theorem w_ints {g : List Int → Option D} {a : AI} {l : List D} {ns : List Int} {d : D} (e1 : viewL s a = some l) (e2 : intsD l = some ns) (e3 : g ns = some d) (h : QA (.val d) s) : Wo QA X (fInts g s [a]) := by
  unfold fInts; simp only []; rw [e1]; show Wo QA X (match (intsD l).bind g with | some d => _ | none => _); rw [e2]; show Wo QA X (match g ns with | some d => _ | none => _); rw [e3]; exact h
theorem w_bls {g : List Bool → D} {a : AI} {l : List D} {bs : List Bool} (e1 : viewL s a = some l) (e2 : blsD l = some bs) (h : QA (.val (g bs)) s) : Wo QA X (fBls g s [a]) := by
  unfold fBls; simp only []; rw [e1]; show Wo QA X (match blsD l with | some d => _ | none => _); rw [e2]; exact h
theorem w_I2 {g : Int → Int → Int} {i j : Int} (h : QA (.val (.int (g i j))) s) : Wo QA X (fI2 g s [.val (.int i), .val (.int j)]) := h
theorem w_list {a : AI} {l : List D} (e : viewL s a = some l) (h : QA (.new (.lst l)) s) : Wo QA X (fList s [a]) := by unfold fList; simp only []; rw [e]; exact h
theorem w_listT {a : AI} {l : List D} (e0 : viewL s a = none) (e : viewT s a = some l) (h : QA (.new (.lst l)) s) : Wo QA X (fList s [a]) := by unfold fList; simp only []; rw [e0]; simp only []; rw [e]; exact h
theorem w_intB {k : Bool} (h : QA (.val (.int (if k then 1 else 0))) s) : Wo QA X (fInt s [.val (.bl k)]) := h
theorem w_isi {a : AI} {n : String} {t : String} {d : D} {b : Bool} (e1 : look s a = some d) (e2 : kindD s.M d = some n) (e3 : kitB n t = some b) (h : QA (.val (.bl b)) s) : Wo QA X (fIsi s [a, .val (.ty t)]) := by
  unfold fIsi; simp only []; rw [e1]; show Wo QA X (match (kindD s.M d).bind fun n => kitB n t with | some b => _ | none => _); rw [e2]; show Wo QA X (match kitB n t with | some b => _ | none => _); rw [e3]; exact h
theorem w_bm {f : Stt → AI → List D → Ro AI} {mo : Mo AI} {ma : Mo (List D)} (h : Wo (fun a s1 => ∃ l, viewL s1 a = some l ∧ Wo (fun ds s2 => Wo QA X (f s2 a ds)) X (ma s1)) X (mo s)) : Wo QA X (mBM f mo ma s) := w_bind (w_mono h fun a s1 ⟨l, e, h⟩ => by
  show Wo QA X (match viewL s1 a with | some _ => _ | none => _); rw [e]; exact w_bind h)
theorem w_app {a : AI} {l : List D} {d : D} (e : getC s a = some (.lst l)) (c : l.length < sizeLine) (h : QA (.val .non) (setC s a (.lst (l ++ [d])))) : Wo QA X (fApp s a [d]) := by
  unfold fApp; rw [e]; simp only []; rw [if_pos c]; exact h
theorem w_ext {a : AI} {l l' : List D} {d : D} (e : getC s a = some (.lst l)) (e2 : listX s.M d = some l') (c : l.length + l'.length ≤ sizeLine) (h : QA (.val .non) (setC s a (.lst (l ++ l')))) : Wo QA X (fExt s a [d]) := by
  unfold fExt; simp only []; rw [e, e2]; simp only []; rw [if_pos c]; exact h
theorem w_rev {a : AI} {l : List D} (e : getC s a = some (.lst l)) (h : QA (.val .non) (setC s a (.lst l.reverse))) : Wo QA X (fRev s a []) := by
  unfold fRev; rw [e]; exact h
theorem w_callN {f : Mf} {ma : Mo (List D)} (h : Wo (fun ds s1 => Fo (fun a M' => QA a ⟨s1.env, M'⟩) (f ds s1.M)) X (ma s)) : Wo QA X (mCallN f ma s) := w_bind (w_mono h fun ds s1 h => by
  show Wo QA X (match f ds s1.M with | .ok a M' => _ | _ => _)
  cases q : f ds s1.M <;> rw [q] at h <;> exact h)
theorem fo_eq {P : AI → List Cn → Prop} {r : Fr} {a : AI} {M' : List Cn} (e : r = .ok a M') (h : P a M') : Fo P r := by subst e; exact h
theorem fo_ok {P : AI → List Cn → Prop} {r : Fr} {a : AI} {M' : List Cn} (h : Fo (fun a' M'' => a' = a ∧ M'' = M') r) : r = .ok a M' := by
  cases r with
  | ok a' M'' => obtain ⟨rfl, rfl⟩ := h; rfl
  | er _ _ => exact False.elim h
  | no => exact False.elim h
/-- how a def ends -/
def Oe (P : AI → List Cn → Prop) : Rs → Prop
  | .rt a s => P a s.M
  | _ => False
theorem f_fn {P : AI → List Cn → Prop} {np n : Nat} {b : Ms} {ds : List D} (hl : ds.length = np) (h : Ws (fun s => P (.val .non) s.M) (Oe P) (b ⟨ds.map (fun d => some (.fz d)) ++ List.replicate (n - ds.length) none, M⟩)) : Fo P (mFn np n b ds M) := by
  unfold mFn
  rw [if_pos hl]
  cases q : b ⟨ds.map (fun d => some (.fz d)) ++ List.replicate (n - ds.length) none, M⟩ <;> rw [q] at h <;> exact h
theorem w_aug {f : Int → Int → Int} {x : Int} (e : entAt s i = some (.fz (.int x))) (h : Wo (fun a s1 => ∃ y, a = .val (.int y) ∧ N ⟨s1.env.set i (some (.fz (.int (f x y)))), s1.M⟩) (fun x s => O (.er x s)) (m s)) : Ws N O (mAug i f m s) := by
  unfold mAug; rw [e]
  exact w_toS (w_mono h fun a s1 ⟨y, e, h⟩ => by subst e; exact h)
theorem w_asgT {g : Tg} (h : Wo (fun d s1 => So N (g d s1)) (fun x s => O (.er x s)) (mV m s)) : Ws N O (mAsgT g m s) := w_toS (w_mono h fun d s1 h => by
  show Ws N O (match g d s1 with | some s2 => .nx s2 | none => .no)
  cases q : g d s1 <;> rw [q] at h <;> exact h)
theorem w_asgS {mo mi mv : Mo AI} (h : Wo (fun d s1 => Wo (fun a s2 => Wo (fun i s3 => So N (setIt a i d s3)) (fun x s => O (.er x s)) (mV mi s2)) (fun x s => O (.er x s)) (mo s1)) (fun x s => O (.er x s)) (mV mv s)) : Ws N O (mAsgS mo mi mv s) :=
  w_toS (w_mono h fun d s1 h => w_toS (w_mono h fun a s2 h => w_toS (w_mono h fun i s3 h => by
    show Ws N O (match setIt a i d s3 with | some s4 => .nx s4 | none => .no)
    cases q : setIt a i d s3 <;> rw [q] at h <;> exact h)))
theorem so_set {P : Stt → Prop} {s' : Stt} {r : Option Stt} (e : r = some s') (h : P s') : So P r := by subst e; exact h
/-! ### loops -/
def Lo (P N : Stt → Prop) (O : Rs → Prop) : Rs → Prop
  | .ct s => P s
  | .bk s => N s
  | r => O r
theorem w_for {mi : Mo Im} {g : Tg} {b : Ms} (h : Wo (fun im s1 => Ws N O (forN g b im.ck im.xs s1)) (fun x s => O (.er x s)) (mi s)) : Ws N O (mFor mi g b s) := w_toS h
theorem w_forN {g : Tg} {b : Ms} {xs : List D} (P : Nat → Stt → Prop) (h0 : P 0 s) (hs : ∀ i x s, xs[i]? = some x → P i s → So (fun s1 => Ws (P (i + 1)) (Lo (P (i + 1)) N O) (b s1)) (g x s)) (hd : ∀ s, P xs.length s → N s) : Ws N O (forN g b none xs s) := by
  induction xs generalizing P s with
  | nil => rw [forN_nil]; exact hd s h0
  | cons x xs ih =>
    have h1 := hs 0 x s rfl h0
    cases hg : g x s with
    | none => rw [hg] at h1; exact False.elim h1
    | some s1 =>
      rw [hg] at h1
      have h1 : Ws (P 1) (Lo (P 1) N O) (b s1) := h1
      rw [forN_cons hg]
      cases hb : b s1 with
      | nx s2 => rw [hb] at h1; exact ih (fun i => P (i + 1)) h1 (fun i y s e => hs (i + 1) y s e) hd
      | ct s2 => rw [hb] at h1; exact ih (fun i => P (i + 1)) h1 (fun i y s e => hs (i + 1) y s e) hd
      | bk s2 => rw [hb] at h1; exact h1
      | rt a s2 => rw [hb] at h1; exact h1
      | er x s2 => rw [hb] at h1; exact h1
      | no => rw [hb] at h1; exact h1
theorem w_while {c : Mo Bool} {b : Ms} (P : Nat → Stt → Prop) (n : Nat) (h0 : P n s) (hs : ∀ n s, P n s → Wo (fun k s1 => if k = true then Ws (fun s2 => ∃ m, m < n ∧ P m s2) (Lo (fun s2 => ∃ m, m < n ∧ P m s2) N O) (b s1) else N s1) (fun x s => O (.er x s)) (c s)) (hO : ∀ r, O r → r ≠ .no) : Ws N O (mWh c b s) := by
  have key : ∀ n s, P n s → ∃ k r, whN c b k s = r ∧ r ≠ .no ∧ Ws N O r := by
    intro n
    induction n using Nat.strongRecOn with
    | ind n ih =>
      intro s h
      have h1 := hs n s h
      cases hc : c s with
      | no => rw [hc] at h1; exact False.elim h1
      | er x s1 => rw [hc] at h1; exact ⟨1, .er x s1, by unfold whN; rw [hc]; rfl, (fun z => nomatch z), h1⟩
      | ok k s1 =>
        rw [hc] at h1
        have h1 : if k = true then Ws (fun s2 => ∃ m, m < n ∧ P m s2) (Lo (fun s2 => ∃ m, m < n ∧ P m s2) N O) (b s1) else N s1 := h1
        cases k with
        | false =>
          rw [if_neg Bool.false_ne_true] at h1
          exact ⟨1, .nx s1, by unfold whN; rw [hc]; rfl, (fun z => nomatch z), h1⟩
        | true =>
          rw [if_pos rfl] at h1
          have go : ∀ s2, (∃ m, m < n ∧ P m s2) → (b s1 = .nx s2 ∨ b s1 = .ct s2) → ∃ k r, whN c b k s = r ∧ r ≠ .no ∧ Ws N O r := by
            rintro s2 ⟨m, hm, hp⟩ hb
            obtain ⟨k, r, e, nr, w⟩ := ih m hm s2 hp
            refine ⟨k + 1, r, ?_, nr, w⟩
            unfold whN; rw [hc]
            show (if true = true then (match b s1 with | .nx s2 => whN c b k s2 | .ct s2 => whN c b k s2 | .bk s2 => .nx s2 | .rt a s2 => .rt a s2 | .er x s2 => .er x s2 | .no => .no) else Rs.nx s1) = _
            rw [if_pos rfl]
            rcases hb with hb | hb <;> rw [hb] <;> exact e
          have fin : ∀ r0 r, b s1 = r0 → (match r0 with | .nx s2 => whN c b 0 s2 | .ct s2 => whN c b 0 s2 | .bk s2 => .nx s2 | .rt a s2 => .rt a s2 | .er x s2 => .er x s2 | .no => .no) = r → whN c b 1 s = r := by
            intro r0 r hb e
            unfold whN; rw [hc]
            show (if true = true then (match b s1 with | .nx s2 => whN c b 0 s2 | .ct s2 => whN c b 0 s2 | .bk s2 => .nx s2 | .rt a s2 => .rt a s2 | .er x s2 => .er x s2 | .no => .no) else Rs.nx s1) = _
            rw [if_pos rfl, hb]; exact e
          cases hb : b s1 with
          | nx s2 => rw [hb] at h1; exact go s2 h1 (.inl hb)
          | ct s2 => rw [hb] at h1; exact go s2 h1 (.inr hb)
          | bk s2 => rw [hb] at h1; exact ⟨1, .nx s2, fin _ _ hb rfl, (fun z => nomatch z), h1⟩
          | rt a s2 => rw [hb] at h1; exact ⟨1, .rt a s2, fin _ _ hb rfl, (fun z => nomatch z), h1⟩
          | er x s2 => rw [hb] at h1; exact ⟨1, .er x s2, fin _ _ hb rfl, (fun z => nomatch z), h1⟩
          | no => rw [hb] at h1; exact False.elim h1
  obtain ⟨k, r, e, nr, w⟩ := key n s h0
  rw [mWh_eq e nr]; exact w
theorem oe_no {P : AI → List Cn → Prop} : ∀ r, Oe P r → r ≠ .no := fun r h z => by subst z; exact h
theorem lo_no {P N : Stt → Prop} (h : ∀ r, O r → r ≠ .no) : ∀ r, Lo P N O r → r ≠ .no := fun r h1 z => by subst z; exact h _ h1 rfl
theorem w_rng1 {r : Mo (List AI)} (h : Wo (fun as s1 => ∃ n : Int, as = [.val (.int n)] ∧ (-(2 ^ 62) ≤ n ∧ n < 2 ^ 62) ∧ QI ⟨rng 0 n.toNat, none⟩ s1) X (r s)) : Wo QI X (mRng1 r s) := w_bind (w_mono h fun as s1 ⟨n, e, c, h⟩ => by subst e; show Wo QI X (if _ then _ else _); rw [if_pos c]; exact h)
theorem w_rng1I {n : Int} {P : Int → Prop} (c : -(2 ^ 62) ≤ n ∧ n < 2 ^ 62) (h : P n) : ∃ m : Int, [AI.val (.int n)] = [.val (.int m)] ∧ (-(2 ^ 62) ≤ m ∧ m < 2 ^ 62) ∧ P m := ⟨n, rfl, c, h⟩
theorem w_rng2 {r : Mo (List AI)} (h : Wo (fun as s1 => ∃ i j : Int, as = [.val (.int i), .val (.int j)] ∧ (-(2 ^ 62) ≤ i ∧ i < 2 ^ 62 ∧ -(2 ^ 62) ≤ j ∧ j < 2 ^ 62) ∧ QI ⟨rng i (j - i).toNat, none⟩ s1) X (r s)) : Wo QI X (mRng2 r s) := w_bind (w_mono h fun as s1 ⟨i, j, e, c, h⟩ => by subst e; show Wo QI X (if _ then _ else _); rw [if_pos c]; exact h)
theorem w_rng2I {i j : Int} {P : Int → Int → Prop} (c : -(2 ^ 62) ≤ i ∧ i < 2 ^ 62 ∧ -(2 ^ 62) ≤ j ∧ j < 2 ^ 62) (h : P i j) : ∃ i' j' : Int, [AI.val (.int i), .val (.int j)] = [.val (.int i'), .val (.int j')] ∧ (-(2 ^ 62) ≤ i' ∧ i' < 2 ^ 62 ∧ -(2 ^ 62) ≤ j' ∧ j' < 2 ^ 62) ∧ P i' j' := ⟨i, j, rfl, c, h⟩
theorem w_wl (h : Wo (fun d s1 => ∃ l, Y.listOf s1.M d = some l ∧ QI ⟨l, ckOf d l⟩ s1) X (mV m s)) : Wo QI X (mWL m s) := w_bind (w_mono h fun d s1 ⟨l, e, h⟩ => by show Wo QI X (match Y.listOf s1.M d with | some l => _ | none => _); rw [e]; exact h)
theorem w_wlI {d : D} {l : List D} {P : List D → Prop} (e : Y.listOf s.M d = some l) (h : P l) : ∃ l', Y.listOf s.M d = some l' ∧ P l' := ⟨l, e, h⟩
theorem w_wt (h : Wo (fun d s1 => ∃ l, tupOf d = some l ∧ QI ⟨l, none⟩ s1) X (mV m s)) : Wo QI X (mWT m s) := w_bind (w_mono h fun d s1 ⟨l, e, h⟩ => by show Wo QI X (match tupOf d with | some l => _ | none => _); rw [e]; exact h)
theorem w_we {r : Mo (List D)} (h : Wo (fun ds s1 => ∃ d l, ds = [d] ∧ Y.listOf s1.M d = some l ∧ QI ⟨enumL l, ckOf d l⟩ s1) X (r s)) : Wo QI X (mWE r s) := w_bind (w_mono h fun ds s1 ⟨d, l, e0, e, h⟩ => by subst e0; show Wo QI X (match Y.listOf s1.M d with | some l => _ | none => _); rw [e]; exact h)
theorem w_weI {d : D} {l : List D} {P : D → List D → Prop} (e : Y.listOf s.M d = some l) (h : P d l) : ∃ d' l', [d] = [d'] ∧ Y.listOf s.M d' = some l' ∧ P d' l' := ⟨d, l, rfl, e, h⟩
theorem w_ws (h : Wo (fun a s1 => ∃ x, a = .val (.str x) ∧ QI ⟨strL x, none⟩ s1) X (m s)) : Wo QI X (mWS m s) := w_bind (w_mono h fun a s1 ⟨x, e, h⟩ => by subst e; exact h)
theorem w_lc {ws : List Nat} {mi : Mo Im} {g : Tg} {c : Mo Bool} {e : Mo AI} (h : Wo (fun im s1 => ∃ l s2, lcN ws g c (mV e) im.ck im.xs [] (wipeS ws s1) = .ok l s2 ∧ QA (.new (.lst l)) ⟨Y.rest s1.env s2.env ws, s2.M⟩) X (mi s)) : Wo QA X (mLc ws mi g c e s) := w_bind (w_mono h fun im s1 ⟨l, s2, e, h⟩ => by
  show Wo QA X (match lcN ws g c (mV _) im.ck im.xs [] (wipeS ws s1) with | .ok l s2 => _ | _ => _)
  rw [e]; exact h)
/-- every item is f of its part; the state comes back -/
theorem w_lcMap {ws : List Nat} {g : Tg} {e : Mo D} {xs : List D} {P : List D → Stt → Prop} (f : D → D) (hz : xs.length ≤ sizeLine) (h : ∀ x ∈ xs, So (fun s1 => Wo (fun d s2 => d = f x ∧ wipeS ws s2 = s) Xf (e s1)) (g x s)) (k : P (xs.map f) s) : ∃ l s2, lcN ws g mYes e none xs [] s = .ok l s2 ∧ P l s2 := by
  refine ⟨xs.map f, s, ?_, k⟩
  have := lc_map (ws := ws) (g := g) (e := e) (s := s) f hz (fun x hx => by
    have h1 := h x hx
    cases hg : g x s with
    | none => rw [hg] at h1; exact h1
    | some s1 =>
      rw [hg] at h1
      have h1 : Wo (fun d s2 => d = f x ∧ wipeS ws s2 = s) Xf (e s1) := h1
      show Ok _ (e s1)
      cases q : e s1 <;> rw [q] at h1 <;> exact h1) [] (by simpa using hz)
  simpa using this
theorem w_lcInv {ws : List Nat} {g : Tg} {e : Mo D} {xs : List D} {P : List D → Stt → Prop} (I : Nat → List D → Stt → Prop) (h0 : I 0 [] s) (hz : xs.length ≤ sizeLine) (h : ∀ i x acc s, xs[i]? = some x → I i acc s → So (fun s1 => Wo (fun d s2 => I (i + 1) (acc ++ [d]) (wipeS ws s2)) Xf (e s1)) (g x s)) (k : ∀ l s', I xs.length l s' → P l s') : ∃ l s2, lcN ws g mYes e none xs [] s = .ok l s2 ∧ P l s2 := by
  obtain ⟨l, s', e1, h1⟩ := lc_inv (ws := ws) (g := g) (e := e) (xs := xs) I [] h0 (by simpa using hz) (fun i x acc s hx hi => by
    have h1 := h i x acc s hx hi
    cases hg : g x s with
    | none => rw [hg] at h1; exact h1
    | some s1 =>
      rw [hg] at h1
      have h1 : Wo (fun d s2 => I (i + 1) (acc ++ [d]) (wipeS ws s2)) Xf (e s1) := h1
      show Ok _ (e s1)
      cases q : e s1 <;> rw [q] at h1 <;> exact h1)
  exact ⟨l, s', e1, k l s' h1⟩
theorem so_some {P : Stt → Prop} (h : P s) : So P (some s) := h
end
end Y
namespace Y
open PySem L2 Z
section
variable {QA : AI → Stt → Prop} {X : Exn → Stt → Prop} {s : Stt}
theorem shaped_str {x : Str} (h : PySem.PyData.strOk x = true) : SeqAt.shaped (.str x) = true := by
  unfold SeqAt.shaped
  rw [show PyData.canLay0 (.str x) = true from h]; rfl
theorem eqv_str (x y : Str) : PyData.eqv (.str x) (.str y) = decide (x = y) := by
  show (x == y) = _
  by_cases h : x = y
  · subst h; simp
  · simp [h]
theorem w_eqS {x y : Str} (c : PySem.PyData.strOk x = true) (c' : PySem.PyData.strOk y = true) (h : QA (.val (.bl (decide (x = y)))) s) : Wo QA X (fEq s (.val (.str x)) (.val (.str y))) :=
  w_eq (eqOf_of (x := .str x) (y := .str y) rfl rfl (shaped_str c) (shaped_str c') (eqv_str x y)) h
theorem w_neS {x y : Str} (c : PySem.PyData.strOk x = true) (c' : PySem.PyData.strOk y = true) (h : QA (.val (.bl (!decide (x = y)))) s) : Wo QA X (fNe s (.val (.str x)) (.val (.str y))) :=
  w_ne (eqOf_of (x := .str x) (y := .str y) rfl rfl (shaped_str c) (shaped_str c') (eqv_str x y)) h
end
end Y

namespace Y
open PySem L2 Z
/-! ## calls that only read, and tell a plain value -/
mutual
def D.noId : D → Bool
  | .tup l => D.noIdL l
  | .ctp l => D.noIdL l
  | .lst l => D.noIdL l
  | .clst l => D.noIdL l
  | .dK l => D.noIdK l
  | .dT l => D.noIdT l
  | .cid _ => false
  | _ => true
def D.noIdL : List D → Bool
  | [] => true
  | d :: l => d.noId && D.noIdL l
def D.noIdK : List (Key × D) → Bool
  | [] => true
  | (_, d) :: l => d.noId && D.noIdK l
def D.noIdT : List (List Key × D) → Bool
  | [] => true
  | (_, d) :: l => d.noId && D.noIdT l
end
def D.scal : D → Bool
  | .non => true
  | .bl _ => true
  | .int _ => true
  | .str _ => true
  | _ => false
section
variable {K : PySem.W.Frag} {ct : Ct} {H0 : Hp} {W : WX} {S : Sh} {s : Stt} {σ : St} {H : Hp} {G : Hp} {α α' : Nat → Addr} {n : Nat}
theorem noIdK_vals : ∀ {l : List (Key × D)}, D.noIdK l = true → D.noIdL (l.map Prod.snd) = true
  | [], _ => rfl
  | (k, d) :: l, h => by
    have h : (d.noId && D.noIdK l) = true := h
    rw [Bool.and_eq_true] at h
    show (d.noId && D.noIdL (l.map Prod.snd)) = true
    rw [h.1, noIdK_vals h.2]; rfl
theorem noIdT_vals : ∀ {l : List (List Key × D)}, D.noIdT l = true → D.noIdL (l.map Prod.snd) = true
  | [], _ => rfl
  | (k, d) :: l, h => by
    have h : (d.noId && D.noIdT l) = true := h
    rw [Bool.and_eq_true] at h
    show (d.noId && D.noIdL (l.map Prod.snd)) = true
    rw [h.1, noIdT_vals h.2]; rfl
mutual
theorem Rp.noId : ∀ {v : V} {d : D}, Rp K G α n v d → d.noId = true → Rp K G α' 0 v d
  | _, _, .non, _ => .non
  | _, _, .bl b, _ => .bl b
  | _, _, .int i, _ => .int i
  | _, _, .str x, _ => .str x
  | _, _, .ty x, _ => .ty x
  | _, _, .tup h r, e => .tup h (RpL.noId r e)
  | _, _, .ctp h r, e => .ctp h (RpL.noId r e)
  | _, _, .lst h r, e => .lst h (RpL.noId r e)
  | _, _, .clst h r, e => .clst h (RpL.noId r e)
  | _, _, .dK h q r, e => .dK h q (RpL.noId r (noIdK_vals e))
  | _, _, .dT h q r, e => .dT h q (RpL.noId r (noIdT_vals e))
  | _, _, .cid h, e => by cases e
theorem RpL.noId : ∀ {vs : List V} {l : List D}, RpL K G α n vs l → D.noIdL l = true → RpL K G α' 0 vs l
  | _, _, .nil, _ => .nil
  | _, _, .cons (d := d) (l := l) h r, e => by
    have e : (d.noId && D.noIdL l) = true := e
    rw [Bool.and_eq_true] at e
    exact .cons (Rp.noId h e.1) (RpL.noId r e.2)
end
theorem Rp.scal {G' : Hp} {n' : Nat} {v : V} {d : D} (h : Rp K G α n v d) (e : d.scal = true) : Rp K G' α' n' v d := by
  cases h <;> first | exact .non | exact .bl _ | exact .int _ | exact .str _ | cases e
theorem Rel.grow {H' : Hp} (r : Rel K ct H0 S s σ H) (k : ∀ a o, H a = some o → H' a = some o) : Rel K ct H0 S s σ H' := by
  have cn : ∀ {a : Addr} {c : Cn}, CnOk K ct S s.M.length H a c → CnOk K ct S s.M.length H' a c := fun {a c} h => h.mono (fun _ _ e => e) (fun _ _ => rfl) (Nat.le_refl _) (fun o e => k a o e)
  refine ⟨fun a o e => U_grow (fun o' e' => k a o' e') (r.sub a o e), fun a l e => ?_, fun a e => ?_, r.len, fun i e h => ?_, fun j c h => ?_⟩
  · obtain ⟨h1, o, h2⟩ := r.lg a l e
    exact ⟨h1, o, k a o h2⟩
  · cases q : H a with
    | none => exact r.dom a q
    | some o => have := k a o q; rw [e] at this; cases this
  · have q := r.slot i e h
    cases e with
    | fz d => exact q
    | xn x => exact xn_mono (S := S) (n := s.M.length) (H := H) (fun _ _ e => e) (fun _ _ => rfl) (Nat.le_refl _) rfl q
    | ow c =>
      obtain ⟨a, h1, h2, h3, h4, h5⟩ := q
      exact ⟨a, h1, h2, h3, h4, cn h5⟩
  · obtain ⟨h1, h2⟩ := r.ids j c h
    exact ⟨h1, cn h2⟩
def snap (s : Stt) : List AI → Option (List D)
  | [] => some []
  | a :: as => (look s a).bind fun d => (snap s as).map (d :: ·)
theorem snap_ok {Hs : Hp} (rel : Rel K ct H0 S s σ H) : ∀ {vs : List V} {as : List AI} {ds : List D}, AsOk K ct Hs S s σ H vs as → snap s as = some ds → RpL K (U ct.lk H) S.α s.M.length vs ds
  | _, _, _, .nil, e => by cases e; exact .nil
  | _, _, _, .cons (a := a) (as := as) i r, e => by
    obtain ⟨d, e1, e2⟩ := Option.bind_eq_some_iff.mp (show ((look s a).bind fun d => (snap s as).map (d :: ·)) = some _ from e)
    obtain ⟨ds, e3, rfl⟩ := Option.map_eq_some_iff.mp e2
    exact .cons (look_ok rel i e1) (snap_ok rel r e3)
def mCallB (f : Mf) (m : Mo (List AI)) : Mo AI := fun s => (m s).bind fun as s1 => match snap s1 as with
  | some ds => if D.noIdL ds = true then (match f ds [] with
    | .ok (.val d) _ => if d.scal = true then .ok (.val d) s1 else .no
    | _ => .no) else .no
  | none => .no
theorem ei_callB {f : Mf} {E : XK} {t : TA} {m : Mo (List AI)} (h : EaL K ct H0 W t m) : Ei K ct H0 W (tCallZ (spM K ct f) E t) (mCallB f m) := fun S s σ H Q rel p =>
  h S s σ H _ rel (Pst.bind bI p fun S1 s1 H1 vs as st1 rel1 i1 p1 => by
    split at p1
    · rename_i ds e
      split at p1
      · rename_i hn
        refine ⟨⟨U ct.lk H1, S1.α, fun _ => none⟩, [], ds, ⟨fun _ _ e => e, (fun a l e => nomatch e), fun _ e => e, rfl, (fun i e q => by simp at q), (fun k c q => by simp at q)⟩, (snap_ok rel1 i1 e).noId hn, ?_⟩
        split at p1
        · rename_i d M' ef
          rw [ef]
          split at p1
          · rename_i hs
            intro S' v H' st rel' it
            have k : ∀ a o, H1 a = some o → H' a = some o := fun a o e => (st.fr a o e rfl).1
            exact p1 S1 v H' ⟨fun _ _ e => e, Nat.le_refl _, fun _ _ => rfl, fun a o e l => ⟨k a o e, l⟩, fun _ _ e => .inl e, st.dom⟩ (rel1.grow k) (Rp.scal it hs)
          · exact False.elim p1
        · exact False.elim p1
      · exact False.elim p1
    · exact False.elim p1)
variable {QA : AI → Stt → Prop} {X : Exn → Stt → Prop}
theorem w_callB {f : Mf} {m : Mo (List AI)} (h : Wo (fun as s1 => ∃ ds d M', snap s1 as = some ds ∧ D.noIdL ds = true ∧ f ds [] = .ok (.val d) M' ∧ d.scal = true ∧ QA (.val d) s1) X (m s)) : Wo QA X (mCallB f m s) := w_bind (w_mono h fun as s1 ⟨ds, d, M', e1, e2, e3, e4, h⟩ => by
  show Wo QA X (match snap s1 as with | some ds => _ | none => _)
  rw [e1]; show Wo QA X (if _ then _ else _); rw [if_pos e2, e3]; show Wo QA X (if _ then _ else _); rw [if_pos e4]; exact h)
theorem noIdL_ints (ns : List Int) : D.noIdL (ns.map D.int) = true := by
  induction ns with
  | nil => rfl
  | cons n ns ih => show (true && D.noIdL (ns.map D.int)) = true; rw [ih]; rfl
theorem noIdL_map {β : Type} {f : β → D} (h : ∀ b, (f b).noId = true) (l : List β) : D.noIdL (l.map f) = true := by
  induction l with
  | nil => rfl
  | cons n ns ih => show ((f n).noId && D.noIdL (ns.map f)) = true; rw [ih, h n]; rfl
/-! ## == of a thing and itself -/
mutual
theorem eqv_self : ∀ x : PyData, x.canLay0 = true → x.eqv x = true
  | .none, _ => rfl
  | .bool b, _ => by show (b == b) = true; simp
  | .int i, _ => by show (i == i) = true; simp
  | .str x, _ => by show (x == x) = true; simp
  | .list xs, h => eqvAll_self xs h
  | .tuple xs, h => eqvAll_self xs h
  | .dict _, h => by cases h
theorem eqvAll_self : ∀ xs : List PyData, PyData.canLayAll0 xs = true → PyData.eqvAll xs xs = true
  | [], _ => rfl
  | x :: xs, h => by
    have h : (x.canLay0 && PyData.canLayAll0 xs) = true := h
    rw [Bool.and_eq_true] at h
    show (x.eqv x && PyData.eqvAll xs xs) = true
    rw [eqv_self x h.1, eqvAll_self xs h.2]; rfl
end
theorem eqOf_same {a b : AI} {x : PyData} (e1 : pyOf s a = some x) (e2 : pyOf s b = some x) (h : SeqAt.shaped x = true) : eqOf s a b = some true :=
  eqOf_of e1 e2 h h (eqv_self x (by unfold SeqAt.shaped at h; rw [Bool.and_eq_true] at h; exact h.1))
theorem pyL_map {β : Type} {f : β → D} {g : β → PyData} (h : ∀ b, (f b).py = some (g b)) (l : List β) : D.pyL (l.map f) = some (l.map g) := by
  induction l with
  | nil => rfl
  | cons n ns ih => show ((f n).py).bind (fun x => (D.pyL (ns.map f)).map (x :: ·)) = _; rw [ih, h n]; rfl
theorem canLay_map {β : Type} {g : β → PyData} (h : ∀ b, (g b).canLay0 = true) (l : List β) : PyData.canLayAll0 (l.map g) = true := by
  induction l with
  | nil => rfl
  | cons n ns ih => show ((g n).canLay0 && PyData.canLayAll0 (ns.map g)) = true; rw [ih, h n]; rfl
theorem depth_map {β : Type} {g : β → PyData} {k : Nat} (h : ∀ b, (g b).depth ≤ k) (l : List β) : PyData.depthAll (l.map g) ≤ k := by
  induction l with
  | nil => exact Nat.zero_le _
  | cons n ns ih => show max (g n).depth (PyData.depthAll (ns.map g)) ≤ k; have := h n; omega
theorem shaped_map {β : Type} {g : β → PyData} (h : ∀ b, (g b).canLay0 = true) (h2 : ∀ b, (g b).depth ≤ 40) (l : List β) : SeqAt.shaped (.list (l.map g)) = true := by
  unfold SeqAt.shaped
  rw [show PyData.canLay0 (.list (l.map g)) = true from canLay_map h l]
  have : PyData.depth (.list (l.map g)) ≤ 64 := by show PyData.depthAll (l.map g) + 1 ≤ 64; have := depth_map h2 l; omega
  rw [decide_eq_true this]; rfl
end
end Y
namespace Y
theorem fo_use {P P' : AI → List Cn → Prop} {r : Fr} (h : Fo P r) (k : ∀ a M', P a M' → P' a M') : Fo P' r := by
  cases r with
  | ok a M => exact k a M h
  | er _ _ => exact h
  | no => exact h
end Y
namespace Y
theorem w_neg {QA : AI → Stt → Prop} {X : Exn → Stt → Prop} {s : Stt} {i : Int} (h : QA (.val (.int (-i))) s) : Wo QA X (fNeg s (.val (.int i))) := h
end Y
namespace Y
section
variable {P : Bool → Prop} {s : Stt}
theorem w_truB {b : Bool} (h : P b) : ∃ d b', look s (.val (.bl b)) = some d ∧ truD s.M d = some b' ∧ P b' := ⟨_, _, rfl, rfl, h⟩
theorem w_truI {i : Int} (h : P (!decide (i = 0))) : ∃ d b', look s (.val (.int i)) = some d ∧ truD s.M d = some b' ∧ P b' := ⟨_, _, rfl, rfl, h⟩
end
end Y

namespace Y
open PySem L2 Z
section
variable {K : PySem.W.Frag} {ct : Ct} {H0 : Hp} {W : WX} {S : Sh} {s : Stt} {σ : St} {H : Hp}
/-! ## more methods of lists -/
def fClr (s : Stt) (a : AI) (ds : List D) : Ro AI := match ds, getC s a with
  | [], some (.lst l) => .ok (.val .non) (setC s a (.lst []))
  | _, _ => .no
theorem jm_clr : JM K ct H0 rClear fClr := fun W S s σ H Hs x a vs ds Q rel i r p => by
  unfold fClr at p
  split at p
  · rename_i l e
    obtain ⟨q, rfl, ⟨us, h1, h2⟩, h3⟩ := mut_ok rel i e
    cases r
    exact ⟨q, us, rfl, rfl, h1, p.mut (h3 _ (.lst []) (fun _ => rfl) ⟨_, upd_same, .nil⟩)⟩
  · exact False.elim p
/-- == of two flat things of one kind -/
def sameK : D → D → Option Bool
  | .int a, .int b => some (a == b)
  | .str a, .str b => some (a == b)
  | .bl a, .bl b => some (a == b)
  | _, _ => none
theorem sameK_rp {G : Hp} {α : Nat → Addr} {n : Nat} {v u : V} {z d : D} {b : Bool} (h : Rp K G α n v z) (h' : Rp K G α n u d) (e : sameK z d = some b) : flatV v = true ∧ flatV u = true ∧ eqV v u = b := by
  unfold sameK at e
  split at e
  · rw [rp_int h, rp_int h']; cases e; exact ⟨rfl, rfl, rfl⟩
  · rw [rp_str h, rp_str h']; cases e; exact ⟨rfl, rfl, rfl⟩
  · rw [rp_bl h, rp_bl h']; cases e; exact ⟨rfl, rfl, rfl⟩
  · cases e
theorem sameK_flat {d z : D} {b : Bool} {G : Hp} {α : Nat → Addr} {n : Nat} {u : V} (h' : Rp K G α n u d) (e : sameK z d = some b) : flatV u = true := by
  unfold sameK at e
  split at e
  · rw [rp_int h']; rfl
  · rw [rp_str h']; rfl
  · rw [rp_bl h']; rfl
  · cases e
def fIdx (s : Stt) (a : AI) (ds : List D) : Ro AI := match ds with
  | [d] => match viewL s a with
    | some l => if l.all (fun z => (sameK z d).isSome) = true then (match l.findIdx? (fun z => sameK z d == some true) with | some j => .ok (.val (.int (j : Nat))) s | none => .no) else .no
    | none => .no
  | _ => .no
theorem rpl_at {G : Hp} {α : Nat → Addr} {n : Nat} : ∀ {vs : List V} {l : List D} {j : Nat} {v : V}, RpL K G α n vs l → vs[j]? = some v → ∃ d, l[j]? = some d ∧ Rp K G α n v d
  | _, _, 0, v, .cons h r, e => by cases e; exact ⟨_, rfl, h⟩
  | _, _, j + 1, v, .cons h r, e => by
    obtain ⟨d, e1, e2⟩ := rpl_at (j := j) r (by simpa using e)
    exact ⟨d, by simpa using e1, e2⟩
theorem rpl_at' {G : Hp} {α : Nat → Addr} {n : Nat} : ∀ {vs : List V} {l : List D} {j : Nat} {d : D}, RpL K G α n vs l → l[j]? = some d → ∃ v, vs[j]? = some v ∧ Rp K G α n v d
  | _, _, 0, v, .cons h r, e => by cases e; exact ⟨_, rfl, h⟩
  | _, _, j + 1, v, .cons h r, e => by
    obtain ⟨d, e1, e2⟩ := rpl_at' (j := j) r (by simpa using e)
    exact ⟨d, by simpa using e1, e2⟩
theorem jm_idx : JM K ct H0 (rIndex K) fIdx := fun W S s σ H Hs x a vs ds Q rel i r p => by
  unfold fIdx at p
  split at p
  · rename_i d
    split at p
    · rename_i l e
      split at p
      · rename_i hall
        split at p
        · rename_i j ej
          obtain ⟨q, us, rfl, k1, k2⟩ := viewL_ok rel i e
          cases r with
          | cons r1 r2 =>
            cases r2
            rename_i y
            have hf : ∀ (m : Nat) (v : V), us[m]? = some v → ∃ (z : D) (b : Bool), l[m]? = some z ∧ sameK z d = some b ∧ flatV v = true ∧ eqV v y = b := by
              intro m v hv
              obtain ⟨z, e1, e2⟩ := rpl_at k2 hv
              have := List.all_eq_true.mp hall z (List.mem_of_getElem? e1)
              obtain ⟨b, hb⟩ := Option.isSome_iff_exists.mp this
              obtain ⟨g1, g2, g3⟩ := sameK_rp e2 r1 hb
              exact ⟨z, b, e1, hb, g1, g3⟩
            obtain ⟨hj, hj1, hj2⟩ := List.findIdx?_eq_some_iff_getElem.mp ej
            have ez : l[j]? = some l[j] := List.getElem?_eq_getElem hj
            obtain ⟨v, ev, rv⟩ := rpl_at' k2 ez
            have hs : sameK l[j] d = some true := by simpa using hj1
            refine ⟨q, us, y, j, v, rfl, rfl, k1, sameK_flat r1 hs, ?_, ev, (sameK_rp rv r1 hs).2.2, ?_, p.val rel (.int _)⟩
            · refine List.all_eq_true.mpr fun v hv => ?_
              obtain ⟨m, hm, rfl⟩ := List.getElem_of_mem hv
              obtain ⟨_, _, _, _, g, _⟩ := hf m _ (List.getElem?_eq_getElem hm)
              exact g
            · intro m z' hm hz'
              obtain ⟨z, b, e1, e2, _, e3⟩ := hf m z' hz'
              rw [e3]
              have := hj2 m hm
              have e4 : l[m] = z := by
                rw [List.getElem?_eq_getElem (by omega)] at e1; exact Option.some.inj e1
              rw [e4, e2] at this
              cases b
              · rfl
              · simp at this
        · exact False.elim p
      · exact False.elim p
    · exact False.elim p
  · exact False.elim p
theorem idxK_ok {X : Cx} {K : PySem.W.Frag} (hK : X.K = K) : MtR X "list.index" (rIndex K) := by subst hK; exact mt_index
/-- l.pop() -/
def fPopL (s : Stt) (a : AI) (ds : List D) : Ro AI := match ds, getC s a with
  | [], some (.lst l) => match l[l.length - 1]? with
    | some d => .ok (.val d) (setC s a (.lst l.dropLast))
    | none => .no
  | _, _ => .no
theorem rpl_dropLast {G : Hp} {α : Nat → Addr} {n : Nat} {vs : List V} {l : List D} (h : RpL K G α n vs l) : RpL K G α n vs.dropLast l.dropLast := by
  rw [List.dropLast_eq_take, List.dropLast_eq_take, h.length]; exact h.take _
theorem jm_popL : JM K ct H0 rPop fPopL := fun W S s σ H Hs x a vs ds Q rel i r p => by
  unfold fPopL at p
  split at p
  · rename_i l e
    split at p
    · rename_i d ed
      obtain ⟨q, rfl, ⟨us, h1, h2⟩, h3⟩ := mut_ok rel i e
      cases r
      obtain ⟨v, ev, rv⟩ := rpl_at' h2 ed
      obtain ⟨r1, r2⟩ := h3 (.lst us.dropLast) (.lst l.dropLast) (fun _ => rfl) ⟨_, upd_same, rpl_dropLast h2⟩
      refine ⟨q, us, v, rfl, rfl, h1, by rw [h2.length]; exact ev, p S v _ r2 r1 ?_⟩
      show Rp K S.G S.α (setC s a (.lst l.dropLast)).M.length v d
      rw [setC_len]; exact rv
    · exact False.elim p
  · exact False.elim p
/-! ## list(range(n)) -/
def mLR1 (m : Mo AI) : Mo AI := fun s => (m s).bind fun a s1 => match a with
  | .val (.int n) => if 0 ≤ n ∧ n ≤ sizeLine then .ok (.new (.lst (rng 0 n.toNat))) s1 else .no
  | _ => .no
theorem rpl_rng {G : Hp} {α : Nat → Addr} {n : Nat} (lo : Int) : ∀ m : Nat, RpL K G α n ((List.range m).map fun i => V.int (lo + (i : Nat))) (rng lo m)
  | 0 => .nil
  | m + 1 => by
    unfold rng
    rw [List.range_succ, List.map_append, List.map_append]
    exact (rpl_rng lo m).append (.cons (.int _) .nil)
theorem ei_lr1 {t : TE} {m : Mo AI} (h : Ei K ct H0 W t m) : Ei K ct H0 W (tLstRg (tRg1 t)) (mLR1 m) := fun S s σ H Q rel p =>
  h S s σ H _ rel (Pst.bind bI p fun S1 s1 H1 x a st1 rel1 i1 p1 => by
    split at p1
    · rename_i n
      cases rp_int i1
      split at p1
      · rename_i hz
        have := sizeLine_eq
        refine ⟨n, rfl, ⟨by omega, by omega, by omega, by omega, by omega⟩, fun q hq => p1.newL rel1 hq ?_⟩
        unfold rgV
        rw [Int.sub_zero]
        exact rpl_rng 0 n.toNat
      · exact False.elim p1
    · exact False.elim p1)
/-! ## borrowed calls that tell a new list of plain values -/
def mCallC (f : Mf) (m : Mo (List AI)) : Mo AI := fun s => (m s).bind fun as s1 => match snap s1 as with
  | some ds => if D.noIdL ds = true then (match f ds [] with
    | .ok (.new (.lst l)) _ => if l.all D.scal = true then .ok (.new (.lst l)) s1 else .no
    | _ => .no) else .no
  | none => .no
theorem RpL.scal {G G' : Hp} {α α' : Nat → Addr} {n n' : Nat} : ∀ {vs : List V} {l : List D}, RpL K G α n vs l → l.all D.scal = true → RpL K G' α' n' vs l
  | _, _, .nil, _ => .nil
  | _, _, .cons (d := d) (l := l) h r, e => by
    rw [List.all_cons, Bool.and_eq_true] at e
    exact .cons (Rp.scal h e.1) (RpL.scal r e.2)
theorem ei_callC {f : Mf} {E : XK} {t : TA} {m : Mo (List AI)} (h : EaL K ct H0 W t m) : Ei K ct H0 W (tCallZ (spM K ct f) E t) (mCallC f m) := fun S s σ H Q rel p =>
  h S s σ H _ rel (Pst.bind bI p fun S1 s1 H1 vs as st1 rel1 i1 p1 => by
    split at p1
    · rename_i ds e
      split at p1
      · rename_i hn
        refine ⟨⟨U ct.lk H1, S1.α, fun _ => none⟩, [], ds, ⟨fun _ _ e => e, (fun a l e => nomatch e), fun _ e => e, rfl, (fun i e q => by simp at q), (fun k c q => by simp at q)⟩, (snap_ok rel1 i1 e).noId hn, ?_⟩
        split at p1
        · rename_i l M' ef
          rw [ef]
          split at p1
          · rename_i hs
            intro S' v H' st rel' it
            have k : ∀ a o, H1 a = some o → H' a = some o := fun a o e => (st.fr a o e rfl).1
            obtain ⟨q, rfl, h1, h2, h3, h4, us, h5, h6⟩ := it
            have hl : S1.lab q = none := by
              cases z : S1.lab q with
              | none => rfl
              | some lb => obtain ⟨_, o, ho⟩ := rel1.lg q lb z; rw [h1] at ho; cases ho
            exact p1 S1 _ H' ⟨fun _ _ e => e, Nat.le_refl _, fun _ _ => rfl, fun a o e l => ⟨k a o e, l⟩, fun _ _ e => .inl e, st.dom⟩ (rel1.grow k) ⟨q, rfl, h1, hl, rel1.gN h1, rfl, us, h5, RpL.scal h6 hs⟩
          · exact False.elim p1
        · exact False.elim p1
      · exact False.elim p1
    · exact False.elim p1)
/-! ## steps -/
variable {X : Exn → Stt → Prop} {QA : AI → Stt → Prop}
theorem w_clr {a : AI} {l : List D} (e : getC s a = some (.lst l)) (h : QA (.val .non) (setC s a (.lst []))) : Wo QA X (fClr s a []) := by
  unfold fClr; rw [e]; exact h
theorem w_popL {a : AI} {l : List D} {d : D} (e : getC s a = some (.lst l)) (e2 : l[l.length - 1]? = some d) (h : QA (.val d) (setC s a (.lst l.dropLast))) : Wo QA X (fPopL s a []) := by
  unfold fPopL; rw [e]; simp only []; rw [e2]; exact h
theorem w_idx {a : AI} {l : List D} {d : D} {j : Nat} (e : viewL s a = some l) (c : l.all (fun z => (sameK z d).isSome) = true) (e2 : l.findIdx? (fun z => sameK z d == some true) = some j) (h : QA (.val (.int (j : Nat))) s) : Wo QA X (fIdx s a [d]) := by
  unfold fIdx; simp only []; rw [e]; simp only []; rw [if_pos c, e2]; exact h
theorem w_idxI {a : AI} {ns : List Int} {i : Int} {j : Nat} (e : viewL s a = some (ns.map D.int)) (e1 : ns[j]? = some i) (e2 : ∀ m, m < j → ns[m]? ≠ some i) (h : QA (.val (.int (j : Nat))) s) : Wo QA X (fIdx s a [.int i]) := by
  refine w_idx e ?_ (j := j) ?_ h
  · refine List.all_eq_true.mpr fun z hz => ?_
    obtain ⟨n, _, rfl⟩ := List.mem_map.mp hz
    rfl
  · have hj := (List.getElem?_eq_some_iff.mp e1).1
    refine List.findIdx?_eq_some_iff_getElem.mpr ⟨by rw [List.length_map]; exact hj, ?_, fun m hm => ?_⟩
    · rw [List.getElem_map]
      have := (List.getElem?_eq_some_iff.mp e1).2
      rw [this]; simp [sameK]
    · rw [List.getElem_map]
      have := e2 m hm
      rw [List.getElem?_eq_getElem (by omega)] at this
      simp only [sameK]
      simp only [ne_eq, Option.some.injEq] at this
      simp [this]
theorem w_callC {f : Mf} {m : Mo (List AI)} (h : Wo (fun as s1 => ∃ ds l M', snap s1 as = some ds ∧ D.noIdL ds = true ∧ f ds [] = .ok (.new (.lst l)) M' ∧ l.all D.scal = true ∧ QA (.new (.lst l)) s1) X (m s)) : Wo QA X (mCallC f m s) := w_bind (w_mono h fun as s1 ⟨ds, d, M', e1, e2, e3, e4, h⟩ => by
  show Wo QA X (match snap s1 as with | some ds => _ | none => _)
  rw [e1]; show Wo QA X (if _ then _ else _); rw [if_pos e2, e3]; show Wo QA X (if _ then _ else _); rw [if_pos e4]; exact h)
theorem scal_ints (ns : List Int) : (ns.map D.int).all D.scal = true := by
  refine List.all_eq_true.mpr fun z hz => ?_
  obtain ⟨n, _, rfl⟩ := List.mem_map.mp hz
  rfl
theorem w_lr1 {m : Mo AI} (h : Wo (fun a s1 => ∃ n : Int, a = .val (.int n) ∧ 0 ≤ n ∧ n ≤ sizeLine ∧ QA (.new (.lst (rng 0 n.toNat))) s1) X (m s)) : Wo QA X (mLR1 m s) := w_bind (w_mono h fun a s1 ⟨n, e, c1, c2, h⟩ => by
  subst e; simp only []; rw [if_pos ⟨c1, c2⟩]; exact h)
theorem w_lr1I {n : Int} {s : Stt} (c1 : 0 ≤ n) (c2 : n ≤ sizeLine) (h : QA (.new (.lst (rng 0 n.toNat))) s) : ∃ m : Int, (AI.val (.int n)) = .val (.int m) ∧ 0 ≤ m ∧ m ≤ sizeLine ∧ QA (.new (.lst (rng 0 m.toNat))) s := ⟨n, rfl, c1, c2, h⟩
end
end Y

namespace Y
open PySem L2 Z
section
variable {K : PySem.W.Frag} {ct : Ct} {H0 : Hp} {W : WX} {S : Sh} {s : Stt} {σ : St} {H : Hp}
/-! ## a new thing is tracked: it has a number from now on -/
def Sh.tr (S : Sh) (n : Nat) (p : Addr) : Sh := ⟨S.G, fun k => if k = n then p else S.α k, fun a => if a = p then some (.id n) else S.lab a⟩
theorem Rel.track {p : Addr} {c : Cn} (r : Rel K ct H0 S s σ H) (hl : S.lab p = none) (hg : S.G p = none) (h : CnOk K ct S s.M.length H p c) : Rel K ct H0 (S.tr s.M.length p) ⟨s.env, s.M ++ [c]⟩ σ H := by
  have hlen : (s.M ++ [c]).length = s.M.length + 1 := by simp
  have al : ∀ k, k < s.M.length → (S.tr s.M.length p).α k = S.α k := fun k hk => if_neg (by omega)
  have lb : ∀ {a : Addr} {l : Lab}, S.lab a = some l → (S.tr s.M.length p).lab a = some l := fun {a l} hh => by
    show (if a = p then _ else S.lab a) = _
    rw [if_neg (fun z => by subst z; rw [hl] at hh; cases hh)]; exact hh
  have cn : ∀ {a : Addr} {c' : Cn}, CnOk K ct S s.M.length H a c' → CnOk K ct (S.tr s.M.length p) (s.M ++ [c]).length H a c' := fun {a c'} h => CnOk.mono (S := S) (n := s.M.length) (fun _ _ e => e) al (by rw [hlen]; omega) (fun _ e => e) h
  refine ⟨r.sub, fun a l q => ?_, r.dom, r.len, fun j en q => ?_, fun k c' q => ?_⟩
  · have q1 : (if a = p then some (Lab.id s.M.length) else S.lab a) = some l := q
    by_cases z : a = p
    · subst z; exact ⟨hg, h.some⟩
    · rw [if_neg z] at q1; exact r.lg a l q1
  · have hh := r.slot j en q
    cases en with
    | fz d => obtain ⟨v, k1, k2⟩ := hh; exact ⟨v, k1, k2.mono (fun _ _ e => e) al (by show _ ≤ (s.M ++ [c]).length; rw [hlen]; omega)⟩
    | xn x => exact xn_mono (S := S) (n := s.M.length) (H := H) (fun _ _ e => e) al (by show _ ≤ (s.M ++ [c]).length; rw [hlen]; omega) rfl hh
    | ow c2 =>
      obtain ⟨a, k1, k2, k3, k4, k5⟩ := hh
      exact ⟨a, k1, k2, lb k3, k4, cn k5⟩
  · have q1 : (s.M ++ [c])[k]? = some c' := q
    by_cases z : k < s.M.length
    · rw [List.getElem?_append_left z] at q1
      obtain ⟨k1, k2⟩ := r.ids k c' q1
      rw [al k z]
      exact ⟨lb k1, cn k2⟩
    · have hk : k = s.M.length := by
        have := (List.getElem?_eq_some_iff.mp q1).1
        rw [hlen] at this; omega
      subst hk
      rw [List.getElem?_append_right (Nat.le_refl _), Nat.sub_self] at q1
      cases q1
      have e : (S.tr s.M.length p).α s.M.length = p := if_pos rfl
      rw [e]
      exact ⟨if_pos rfl, cn h⟩
theorem Stp.track {S' : Sh} {n n' : Nat} {H' : Hp} {p : Addr} (t : Stp S n H S' n' H') (hp : H p = none) : Stp S n H (S'.tr n' p) (n' + 1) H' where
  g := t.g
  le := Nat.le_succ_of_le t.le
  al := fun k hk => by
    show (if k = n' then p else S'.α k) = _
    rw [if_neg (by have := t.le; omega)]; exact t.al k hk
  fr := fun a o h l => by
    obtain ⟨h1, h2⟩ := t.fr a o h l
    refine ⟨h1, ?_⟩
    show (if a = p then _ else S'.lab a) = none
    rw [if_neg (ne_of_none h hp)]; exact h2
  gn := t.gn
  dom := t.dom
theorem tr_cid {n : Nat} {p : Addr} : Rp K (S.tr n p).G (S.tr n p).α (n + 1) (.ref p) (.cid n) := by
  have h : Rp K (S.tr n p).G (S.tr n p).α (n + 1) (.ref ((S.tr n p).α n)) (.cid n) := .cid (Nat.lt_succ_self n)
  have e : (S.tr n p).α n = p := if_pos rfl
  rw [e] at h; exact h
/-- x = e, and the new thing is tracked -/
def mAsgK (i : Nat) (m : Mo AI) : Ms := fun s => (m s).toS fun a s1 => match a with
  | .new c => .nx ⟨s1.env.set i (some (.fz (.cid s1.M.length))), s1.M ++ [c]⟩
  | _ => .no
theorem sv_asgK {i : Nat} {te : TE} {m : Mo AI} (h : Ei K ct H0 W te m) : Sv K ct H0 W (tAsg te (gName i)) (mAsgK i m) := fun S s σ H Dn rel p =>
  h S s σ H _ rel (PstS.bind p fun S1 s1 H1 x a st1 rel1 i1 p1 => by
    show Dn.nx (σ.set i (some x)) H1
    split at p1
    · rename_i c
      obtain ⟨q, rfl, h1, h2, h3, h4, h5⟩ := i1
      have rt := rel1.track h2 h3 h5
      have hlen : (s1.M ++ [c]).length = s1.M.length + 1 := by simp
      refine p1 ((S1.tr s1.M.length q).un i) _ H1 ?_ (rt.setFz (by show Rp _ _ _ (s1.M ++ [c]).length _ _; rw [hlen]; exact tr_cid))
      show Stp S s.M.length H _ (s1.M ++ [c]).length H1
      rw [hlen]
      exact (st1.track h1).trans .un
    · exact False.elim p1)
/-! ## join -/
def strsD : List D → Option (List Str)
  | [] => some []
  | .str i :: l => (strsD l).map (i :: ·)
  | _ :: _ => none
theorem strs_rp {G : Hp} {α : Nat → Addr} {n : Nat} : ∀ {l : List D} {vs : List V} {ns : List Str}, RpL K G α n vs l → strsD l = some ns → vs = ns.map V.str
  | [], _, _, .nil, e => by cases e; rfl
  | .str i :: l, _, ns, .cons h r, e => by
    obtain ⟨ms, q, rfl⟩ := Option.map_eq_some_iff.mp (show (strsD l).map (i :: ·) = some ns from e)
    rw [rp_str h, strs_rp r q]; rfl
  | .non :: _, _, _, _, e => by cases e
  | .bl _ :: _, _, _, _, e => by cases e
  | .int _ :: _, _, _, _, e => by cases e
  | .tup _ :: _, _, _, _, e => by cases e
  | .ctp _ :: _, _, _, _, e => by cases e
  | .lst _ :: _, _, _, _, e => by cases e
  | .clst _ :: _, _, _, _, e => by cases e
  | .dK _ :: _, _, _, _, e => by cases e
  | .dT _ :: _, _, _, _, e => by cases e
  | .cid _ :: _, _, _, _, e => by cases e
  | .ty _ :: _, _, _, _, e => by cases e
theorem strsD_map (ns : List Str) : strsD (ns.map D.str) = some ns := by
  induction ns with
  | nil => rfl
  | cons n ns ih => show (strsD (ns.map D.str)).map (n :: ·) = _; rw [ih]; rfl
/-! ## sep.join(list of texts) -/
def mJoin (mo ma : Mo AI) : Mo AI := fun s => (mo s).bind fun a s1 => match a with
  | .val (.str x) => (ma s1).bind fun b s2 => match (viewL s2 b).bind strsD with
    | some ys => if (ys.map (·.length)).sum + ys.length * x.length ≤ 16777216 then .ok (.val (.str (Txt.join x ys))) s2 else .no
    | none => .no
  | _ => .no
def rJoinY (K : PySem.W.Frag) : V → List V → Hp → VK → Prop := fun x xs H Q => ∃ a p, ∃ ys : List Str, x = .str a ∧ xs = [.ref p] ∧ (SqL K H p (ys.map V.str) ∨ SqT K H p (ys.map V.str)) ∧
    (ys.map (·.length)).sum + ys.length * a.length ≤ 16777216 ∧ Q (.str (Txt.join a ys)) H
theorem ei_join {to te : TE} {mo ma : Mo AI} (ho : Ei K ct H0 W to mo) (ha : Ei K ct H0 W te ma) : Ei K ct H0 W (tM1 (rJoinY K) to te) (mJoin mo ma) := fun S s σ H Q rel p =>
  ho S s σ H _ rel (Pst.bind bI p fun S1 s1 H1 x a st1 rel1 i1 p1 => by
    split at p1
    · rename_i z
      cases rp_str i1
      refine ⟨⟨z, rfl⟩, ha S1 s1 σ H1 _ rel1 (Pst.bind bI p1 fun S2 s2 H2 y b st2 rel2 i2 p2 => ?_)⟩
      split at p2
      · rename_i ys e
        split at p2
        · rename_i hz
          obtain ⟨l, e1, e2⟩ := Option.bind_eq_some_iff.mp e
          obtain ⟨q, us, rfl, k1, k2⟩ := viewL_ok rel2 i2 e1
          rw [strs_rp k2 e2] at k1
          exact ⟨z, q, ys, rfl, rfl, .inl k1, hz, p2.val rel2 (.str _)⟩
        · exact False.elim p2
      · exact False.elim p2
    · exact False.elim p1)
theorem pe_joinY {X : Cx} {K : PySem.W.Frag} {o e : Expr} {to te : TE} {apos pos : Pos} (hK : X.K = K) (ho : PE X o to) (he : PE X e te) (hs : starEach [e] X.env = [(false, eval e X.env)] := by rfl) (hbase : attributeBase o "join" X.env (eval o X.env) = eval o X.env := by rfl) (hline : (apos.endLine == pos.line) = true := by rfl) :
    PE X (.Call (.Attribute o "join" apos) [e] [] pos) (tM1 (rJoinY K) to te) := by subst hK; exact pe_join ho he hs hbase hline
/-! ## text * number -/
def rMulS : R2 := fun x y H Q => ∃ a n, x = .str a ∧ y = .int n ∧ a.length ≤ 16 ∧ 0 ≤ n ∧ n ≤ 1048576 ∧ Q (.str (Txt.mul a n)) H
theorem op_mulS {X : Cx} : OpR X (binaryOp .Mult) rMulS := by
  intro pins s σ H x y v u Q I rx ry h
  obtain ⟨a, n, rfl, rfl, h1, h2, h3, q⟩ := h
  obtain ⟨t, rfl⟩ := rx
  obtain ⟨t', rfl⟩ := ry
  exact PySem.W.KXi.mul (n := a.length) rfl h1 (by omega) (by omega) fun t'' k _ _ => ⟨.str _, H, I.tok k, ⟨t'', rfl⟩, q⟩
def fMulS : Stt → AI → AI → Ro AI := fun s a b => match a, b with
  | .val (.str x), .val (.int n) => if x.length ≤ 16 ∧ 0 ≤ n ∧ n ≤ 1048576 then .ok (.val (.str (Txt.mul x n))) s else .no
  | _, _ => .no
theorem j_mulS : J2 K ct H0 rMulS fMulS := fun W S s σ H Hs Hs' x y a b Q rel ia ib p => by
  unfold fMulS at p
  split at p
  · rename_i z n
    cases rp_str ia
    cases rp_int ib
    split at p
    · rename_i hz
      exact ⟨z, n, rfl, rfl, hz.1, hz.2.1, hz.2.2, p.val rel (.str _)⟩
    · exact False.elim p
  · exact False.elim p
/-! ## steps -/
variable {X : Exn → Stt → Prop} {QA : AI → Stt → Prop} {N : Stt → Prop} {O : Rs → Prop}
theorem w_asgK {i : Nat} {m : Mo AI} (h : Wo (fun a s1 => ∃ c, a = .new c ∧ N ⟨s1.env.set i (some (.fz (.cid s1.M.length))), s1.M ++ [c]⟩) (fun x s => O (.er x s)) (m s)) : Ws N O (mAsgK i m s) := w_toS (w_mono h fun a s1 ⟨c, e, h⟩ => by subst e; exact h)
theorem w_sjoin {mo ma : Mo AI} (h : Wo (fun a s1 => ∃ x, a = .val (.str x) ∧ Wo (fun b s2 => ∃ ys, (viewL s2 b).bind strsD = some ys ∧ (ys.map (·.length)).sum + ys.length * x.length ≤ 16777216 ∧ QA (.val (.str (Txt.join x ys))) s2) X (ma s1)) X (mo s)) : Wo QA X (mJoin mo ma s) := w_bind (w_mono h fun a s1 ⟨x, e, h⟩ => by
  subst e; exact w_bind (w_mono h fun b s2 ⟨ys, e1, c, h⟩ => by
    show Wo QA X (match (viewL s2 b).bind strsD with | some ys => _ | none => _)
    rw [e1]; show Wo QA X (if _ then _ else _); rw [if_pos c]; exact h))
theorem w_mulS {x : Str} {n : Int} (c : x.length ≤ 16 ∧ 0 ≤ n ∧ n ≤ 1048576) (h : QA (.val (.str (Txt.mul x n))) s) : Wo QA X (fMulS s (.val (.str x)) (.val (.int n))) := by
  unfold fMulS; simp only []; rw [if_pos c]; exact h
end
end Y

namespace Y
open PySem L2 Z
/-! ## texts as lists of code points -/
def tx (l : List Nat) : Str := ⟨l.toArray⟩
theorem tx_inj {a b : List Nat} (h : tx a = tx b) : a = b := congrArg (fun x : Str => x.cps.toList) h
theorem tx_len (l : List Nat) : (tx l).length = l.length := by simp [tx, Str.length]
theorem tx_cat (a b : List Nat) : tx a ++ tx b = tx (a ++ b) := by
  show (⟨a.toArray ++ b.toArray⟩ : Str) = ⟨(a ++ b).toArray⟩
  simp
theorem tx_cut (l : List Nat) (lo hi : Option Int) : cutS (tx l) lo hi = tx (cutL l lo hi) := by
  unfold cutS cutL
  rw [tx_len]; rfl
theorem tx_in (a : List Nat) (c : Nat) : (!(Builtin.Str.occurrences (tx a) (tx [c]) 0 (tx a).length 1).isEmpty) = decide (c ∈ a) := StrLaws.found_one (tx a) c
theorem tx_strL (l : List Nat) : strL (tx l) = l.map fun c => .str (tx [c]) := rfl
theorem tx_eq {a b : List Nat} : (tx a = tx b) ↔ a = b := ⟨tx_inj, fun h => by rw [h]⟩
theorem tx_decide {a b : List Nat} : decide (tx a = tx b) = decide (a = b) := by
  by_cases h : a = b
  · rw [decide_eq_true h, decide_eq_true (tx_eq.mpr h)]
  · rw [decide_eq_false h, decide_eq_false (fun q => h (tx_inj q))]
theorem joinL_nil : ∀ ys : List (List Nat), TL.joinL [] ys = ys.flatten
  | [] => rfl
  | [p] => by simp [TL.joinL]
  | p :: q :: r => by
    show p ++ ([] ++ TL.joinL [] (q :: r)) = _
    rw [joinL_nil (q :: r)]; rfl
theorem tx_join0 (ys : List (List Nat)) : Txt.join (tx []) (ys.map tx) = tx ys.flatten := by
  rw [← joinL_nil]
  exact SX.join_S [] ys
section
variable {s : Stt} {X : Exn → Stt → Prop} {QA : AI → Stt → Prop}
theorem w_ixS {cs : List Nat} {i : Int} {c : Nat} (z : cs.length ≤ sizeLine) (e : atI cs i = some c) (h : QA (.val (.str (tx [c]))) s) : Wo QA X (fIxY s (.val (.str (tx cs))) (.val (.int i))) := by
  unfold fIxY
  show Wo QA X (fIx s (.val (.str (tx cs))) (.val (.int i)))
  unfold fIx
  show Wo QA X (if (tx cs).length ≤ sizeLine then (match atI (tx cs).cps.toList i with | some c => _ | none => _) else _)
  rw [tx_len, if_pos z]
  show Wo QA X (match atI cs i with | some c => _ | none => _)
  rw [e]; exact h
theorem w_inS {a : List Nat} {c : Nat} (h : QA (.val (.bl (decide (c ∈ a)))) s) : Wo QA X (fIn s (.val (.str (tx [c]))) (.val (.str (tx a)))) := by
  unfold fIn
  rw [show inOf s (.val (.str (tx [c]))) (.val (.str (tx a))) = some (decide (c ∈ a)) from congrArg some (tx_in a c)]; exact h
theorem w_addT {a b : List Nat} (c : a.length + b.length ≤ sizeLine) (h : QA (.val (.str (tx (a ++ b)))) s) : Wo QA X (fAdd s (.val (.str (tx a))) (.val (.str (tx b)))) :=
  w_addS (by rw [tx_len, tx_len]; exact c) (by rw [tx_cat]; exact h)
theorem w_slT {a : List Nat} {lo hi : Option Int} (c : a.length ≤ sizeLine) (h : QA (.val (.str (tx (cutL a lo hi)))) s) : Wo QA X (fSl s (.val (.str (tx a))) lo hi) :=
  w_slS (by rw [tx_len]; exact c) (by rw [tx_cut]; exact h)
theorem w_lenT {a : List Nat} (c : a.length ≤ sizeLine) (h : QA (.val (.int (a.length : Nat))) s) : Wo QA X (fLen s [.val (.str (tx a))]) := by
  refine w_len (d := .str (tx a)) (n := a.length) rfl ?_ h
  show (if (tx a).length ≤ sizeLine then some (tx a).length else none) = _
  rw [tx_len, if_pos c]
end
end Y

namespace Y
open PySem L2 Z
open PySem.W (AllAlike Sortable dataLe EachIs)
/-! ## sorted(list of data) -/
def pyD (d : D) : PyData := d.py.getD .none
def rSortY (K : PySem.W.Frag) : List V → Hp → VK → Prop := fun xs H Q => ∃ (q : Addr) (ts : List (V × D)), xs = [.ref q] ∧ SqL K H q (ts.map Prod.fst) ∧ (∀ t ∈ ts, Dp K H t.1 (pyD t.2)) ∧ AllAlike (ts.map fun t => pyD t.2) ∧ Sortable (ts.map fun t => pyD t.2) ∧ (∀ t ∈ ts, (pyD t.2).depth ≤ 40) ∧
  ∀ p, H p = none → Q (.ref p) (upd H p (.lst ((ts.mergeSort (dataLe false fun t => pyD t.2)).map Prod.fst)))
section
variable {X : Cx}
theorem each_vals : ∀ {ts : List (V × D)} {us : List Value}, Vals (ts.map Prod.fst) us → EachIs (fun u (t : V × D) => RelV t.1 u) us ts
  | [], _, .nil => .nil
  | _ :: _, _, .cons h r => .cons h (each_vals r)
theorem vals_each : ∀ {ts : List (V × D)} {us : List Value}, EachIs (fun u (t : V × D) => RelV t.1 u) us ts → Vals (ts.map Prod.fst) us
  | [], _, .nil => .nil
  | _ :: _, _, .cons h r => .cons h (vals_each r)
theorem each_reads {pins : List (Addr × Obj)} {σ : St} {H : Hp} {s : Shared} (I : Inv X pins σ H s) : ∀ {ts : List (V × D)} {us : List Value}, Vals (ts.map Prod.fst) us → (∀ t ∈ ts, Dp X.K H t.1 (pyD t.2)) → EachIs (fun u (t : V × D) => ∃ as, PySem.Reads s.heap u (pyD t.2) as) us ts
  | [], _, .nil, _ => .nil
  | t :: ts, _, .cons h r, hd => .cons (Dp.reads I (pyD t.2) t.1 _ (hd t (List.mem_cons_self ..)) h) (each_reads I r fun t' h' => hd t' (List.mem_cons_of_mem _ h'))
theorem cr_sortY' (hu : X.A.units + 70 < cLine) : CallR X (.builtin "sorted") (rSortY X.K) := by
  intro pins s σ H vs us Q I r h
  obtain ⟨a, ts, rfl, hs, hd, hal, hk, hdp, q⟩ := h
  obtain ⟨its, rv, hl, hz⟩ := I.list hs
  rw [Vals.ref1 r]
  rw [List.length_map] at hz
  refine PySem.W.sorted_data (enc := fun t : V × D => pyD t.2) hl.isList (each_vals rv) (each_reads I rv hd) hal hk hz (fun b hb => by have := hdp b hb; omega) fun out ho eo => ?_
  obtain ⟨ep, he'⟩ := PyProof.Rows.sortedAll_at s.heap its out.toArray
  have rv' := vals_each eo
  refine ⟨.ref _, upd H (s.heap.objs.size + 1) (.lst ((ts.mergeSort (dataLe false fun t => pyD t.2)).map Prod.fst)), I.laid (t' := s.toks) (fun _ _ => PyProof.Rows.sortedAll_old) (Nat.le_succ _) ⟨by rw [List.length_map, List.length_mergeSort]; exact hz, out, ep, rv', he'⟩, rfl, q _ (I.hok.fresh (Nat.le_succ _))⟩
theorem cr_sortY {K : PySem.W.Frag} (hK : X.K = K) (hu : X.A.units + 70 < cLine) : CallR X (.builtin "sorted") (rSortY K) := by subst hK; exact cr_sortY' hu
end
section
variable {K : PySem.W.Frag} {ct : Ct} {H0 : Hp} {W : WX}
def SortOk (l : List D) : Prop := (∀ d ∈ l, d.py.isSome = true) ∧ AllAlike (l.map pyD) ∧ Sortable (l.map pyD) ∧ (∀ d ∈ l, (pyD d).depth ≤ 40)
open Classical in
noncomputable def fSort (s : Stt) (as : List AI) : Ro AI := match as with
  | [a] => match viewL s a with
    | some l => if SortOk l then .ok (.new (.lst (l.mergeSort (dataLe false pyD)))) s else .no
    | none => .no
  | _ => .no
theorem RpL.zips {G : Hp} {α : Nat → Addr} {n : Nat} : ∀ {vs : List V} {l : List D}, RpL K G α n vs l → ∃ ts : List (V × D), ts.map Prod.fst = vs ∧ ts.map Prod.snd = l ∧ ∀ t ∈ ts, Rp K G α n t.1 t.2
  | _, _, .nil => ⟨[], rfl, rfl, fun t h => by simp at h⟩
  | _, _, .cons (v := v) (d := d) h r => by
    obtain ⟨ts, e1, e2, e3⟩ := RpL.zips r
    refine ⟨(v, d) :: ts, by rw [List.map_cons, e1], by rw [List.map_cons, e2], fun t ht => ?_⟩
    rcases List.mem_cons.mp ht with rfl | ht
    · exact h
    · exact e3 t ht
theorem RpL.unzip {G : Hp} {α : Nat → Addr} {n : Nat} : ∀ {ts : List (V × D)}, (∀ t ∈ ts, Rp K G α n t.1 t.2) → RpL K G α n (ts.map Prod.fst) (ts.map Prod.snd)
  | [], _ => .nil
  | t :: ts, h => .cons (h t (List.mem_cons_self ..)) (RpL.unzip fun t' h' => h t' (List.mem_cons_of_mem _ h'))
theorem jb_sort : JB K ct H0 (rSortY K) fSort := fun W S s σ H Hs vs as Q rel ia p => by
  unfold fSort at p
  split at p
  · rename_i a
    obtain ⟨v, rfl, i⟩ := as1 ia
    split at p
    · rename_i l e
      split at p
      · rename_i hok
        obtain ⟨h1, h2, h3, h4⟩ := hok
        obtain ⟨q, us, rfl, k1, k2⟩ := viewL_ok rel i e
        obtain ⟨ts, e1, e2, e3⟩ := RpL.zips k2
        have em : ts.map (fun t => pyD t.2) = l.map pyD := by rw [← e2, List.map_map]; rfl
        have hm : ∀ t ∈ ts, t.2 ∈ l := fun t ht => by rw [← e2]; exact List.mem_map_of_mem ht
        refine ⟨q, ts, rfl, by rw [e1]; exact k1, fun t ht => ?_, by rw [em]; exact h2, by rw [em]; exact h3, fun t ht => h4 _ (hm t ht), fun r hr => ?_⟩
        · obtain ⟨x, hx⟩ := Option.isSome_iff_exists.mp (h1 _ (hm t ht))
          have := uDp (rp_dp ((e3 t ht).mono rel.sub (fun _ _ => rfl) (Nat.le_refl _)) hx)
          unfold pyD; rw [hx]
          exact this
        · refine p.newL rel hr ?_
          have es : l.mergeSort (dataLe false pyD) = (ts.mergeSort (dataLe false fun t => pyD t.2)).map Prod.snd := by
            rw [← e2]
            refine (List.map_mergeSort (fun a _ b _ => ?_)).symm
            rfl
          rw [es]
          exact RpL.unzip fun t ht => e3 t (List.mem_mergeSort.mp ht)
      · exact False.elim p
    · exact False.elim p
  · exact False.elim p
variable {s : Stt} {X : Exn → Stt → Prop} {QA : AI → Stt → Prop}
theorem w_sort {a : AI} {l : List D} (e : viewL s a = some l) (c : SortOk l) (h : QA (.new (.lst (l.mergeSort (dataLe false pyD)))) s) : Wo QA X (fSort s [a]) := by
  unfold fSort; simp only []; rw [e]; simp only []; rw [if_pos c]; exact h
end
end Y

/-! # exceptions -/
namespace L2
open PySem PySem.Spec PyProof.Rows
section
variable {X : Cx} {o e : Expr} {es : List Expr} {to te : TE} {ta : TA} {f : Str} {p p' p1 p2 pos : Pos}
/-- B.__init__(self, ..) of an own class B that has ValueError's -/
theorem pe_clsinit {x : Str} {CS : Addr} {mc : Value} {pl : Sem Bool} (hg : Gl X x) (hm : X.mg x = some (.ref CS)) (r : ClX.CRead X.K CS mc) (hv : PySem.W.findCls X.K (.ref CS) mc "__init__" = some (.val (.builtin "ValueError.__init__"))) (ha : PA X (e :: es) ta)
    (hdb : (x == ("__debug__" : Str)) = false := by decide)
    (hc : eval (.Call (.Attribute (.Name x p1) "__init__" p2) (e :: es) [] pos) X.env = (do
      let ov ← eval (.Name x p1) X.env
      standAt p2.atName
      let (f, first) ← holding [ov] (getMethod ov "__init__" pl)
      callWith pos f first (backTo pos (starEach (e :: es) X.env)) (backToKw pos (keywordEach [] X.env))) := by rfl)
    (he : starEach (e :: es) X.env = (false, eval e X.env) :: starEach es X.env := by rfl) (hpl : (backTo pos (starEach es X.env)).any (·.1) = false := by rfl) :
    PE X (.Call (.Attribute (.Name x p1) "__init__" p2) (e :: es) [] pos) (tVeI X.K ta) := by
  refine ⟨fun pins s σ H Q I h => ?_⟩
  refine PySem.W.methodCall_KW (ld_glob I hg hm ?_ hdb) hc
  refine PySem.W.method_cls I.kIn r.ga (PySem.W.cls_value I.kIn r.rd hv rfl ?_)
  show wpAny _ _ (callWith pos (Value.builtin "ValueError.__init__") [] (backTo pos (starEach (e :: es) X.env)) []) _ _ _
  refine PyProof.Rows.callWith_method1 (thn (ha.run pos pins _ σ H _ (I.tok _) h) fun us s1 ⟨vs, H1, I1, r1, a, C, ws, ev, hl, T, ea, q⟩ => ?_) he hpl
  subst ev
  cases r1 with
  | @cons _ u0 _ ur ra rw' =>
    obtain rfl : u0 = Value.ref a := ra
    have hlen : ur.length ≤ sizeLine := by
      rw [← Paired.length rw', sizeLine_eq]
      omega
    exact oinit_ok T I1 ea hlen fun s' J => ⟨.non, H1, J, rfl, q⟩
/-- isinstance(e, c), e the exception that the suite holds, of any class that is known -/
def rIsX (K : PySem.W.Frag) (cls : Value) (a : Addr) (dd : Option Addr) : List V → Hp → VK → Prop := fun xs H Q => ∃ (D : Addr) (c : V) (cv : Value) (b : Bool), cls = .ref D ∧ ExcC K D ∧ xs = [.ref a, c] ∧ (∀ u, RelV c u → u = cv) ∧ PySem.W.kitOne K (.ref D) cv = some b ∧ (dd = none ∨ ∃ d fs, dd = some d ∧ H d = some (.xd fs)) ∧ Q (.bl b) H
theorem call_isX' {X : Cx} {a : Addr} {oe : Obj} {cls : Value} {dd : Option Addr} {pn : List (Addr × Obj)} (hz : Zc cls dd oe) (hf : ∃ vs, oe.data = .fields vs) : CallR (X.suite a ((a, oe) :: pn)) (.builtin "isinstance") (rIsX X.K cls a dd) := by
  intro pins s σ H xs us Q I r h
  obtain ⟨D, c, cv, b, rfl, C, rfl, hcv, e, hd, q⟩ := h
  cases r with
  | cons rx rr =>
    cases rr with
    | cons rt rr =>
      cases rr
      cases rx
      have ec := hcv _ rt
      subst ec
      obtain ⟨hget, _⟩ := I.pin (a, oe) (List.mem_append.mpr (.inl List.mem_cons_self))
      obtain ⟨vs, hv⟩ := hf
      have hcl : (PySem.W.clsIn X.K D).isSome = true := by
        obtain ⟨cd, hc, _⟩ := PySem.W.any_some C.hd
        rw [hc]; rfl
      have J : ∃ od, PySem.W.InstAt s.heap a oe D od := by
        rcases hd with rfl | ⟨d, fs, rfl, ed⟩
        · exact ⟨none, hget, hz.1, by unfold PySem.W.notCls; rw [hv] <;> rfl, by rw [hz.2]; trivial⟩
        · have hx : ObjOk X.prog X.w H s.heap d (.xd fs) := I.hok d _ ed
          obtain ⟨mA, hns, hr⟩ := hx
          obtain ⟨od, ho, hl⟩ := lookIn_ns hns
          exact ⟨some od, hget, hz.1, by unfold PySem.W.notCls; rw [hv] <;> rfl, by rw [hz.2]; exact ho⟩
      obtain ⟨od, J⟩ := J
      exact PySem.W.kia_one (PySem.W.kitx_exc hcl C.hg C.hk C.hs C.ha C.hn C.ht C.hm) I.kIn J e (fun z => nomatch z) fun tk => ⟨.bl b, H, I.kept (t' := tk) fun _ _ z => z, rfl, q⟩
theorem call_isX {X : Cx} {K : PySem.W.Frag} (hK : X.K = K) {a : Addr} {oe : Obj} {cls : Value} {dd : Option Addr} {pn : List (Addr × Obj)} (hz : Zc cls dd oe) (hf : ∃ vs, oe.data = .fields vs) : CallR (X.suite a ((a, oe) :: pn)) (.builtin "isinstance") (rIsX K cls a dd) := by subst hK; exact call_isX' hz hf
end
end L2
namespace Y
open PySem L2 Z
/-! ## what the rules below are, with K named -/
section
variable {X : Cx} {K : PySem.W.Frag} {x n : Str} {c : Value} {i : Nat} {body suite : List Stmt} {b₀ : Stmt} {h₀ : ExceptHandler} {hds : List ExceptHandler} {l : List (Value × (Addr → Value → Option Addr → TS))} {np pos pos' : Pos} {tb : WX → TS} {ts : Addr → Value → Option Addr → TS} {Wout : WX}
def tTryA (K : PySem.W.Frag) (c : Value) (i : Nat) (tb : WX → TS) (ts : Addr → Value → Option Addr → TS) (Wout : WX) : TS := fun D σ H => tb (wAs K c i ts Wout D) D σ H
def tTryM (K : PySem.W.Frag) (l : List (Value × (Addr → Value → Option Addr → TS))) (tb : WX → TS) (Wout : WX) : TS := fun D σ H => tb (wMany K Wout D l) D σ H
theorem ps_tryA (hK : X.K = K) (hs : X.stack = X.env :: X.outer) (hf : X.env.frame = some X.env.locals) (hN : X.N.Nodup) (hi : X.N[i]? = some n) (hln : X.env.kindOf n = some .local) (hc : Names X x c) (tk : Takes X Wout)
    (hb : ∀ (W : WX) (pn : List (Addr × Obj)) (xe : Value → Shared → Prop), Takes (X.tr pn xe) W → PassesOwn (model X.prog X.w) X.A X.env xe → PSs (X.tr pn xe) body (tb W))
    (hsu : ∀ (a : Addr) (oe : Obj) (cls : Value) (d : Option Addr) (pn : List (Addr × Obj)), Zc cls d oe → (∃ vs, oe.data = .fields vs) → PSs (X.suite a ((a, oe) :: pn)) (b₀ :: suite) (ts a cls d)) :
    PS X (.Try body [.ExceptHandler (some (.Name x np)) (some n) (b₀ :: suite) pos'] [] [] pos) (tTryA K c i tb ts Wout) := by
  subst hK
  exact ps_try_as hs hf hN hi hln hc tk hb hsu
theorem ps_tryM (hK : X.K = K) (hs : X.stack = X.env :: X.outer) (hf : X.env.frame = some X.env.locals) (tk : Takes X Wout)
    (hb : ∀ (W : WX) (pn : List (Addr × Obj)) (xe : Value → Shared → Prop), Takes (X.tr pn xe) W → PassesOwn (model X.prog X.w) X.A X.env xe → PSs (X.tr pn xe) body (tb W))
    (hh : HdsOk X (h₀ :: hds) l) : PS X (.Try body (h₀ :: hds) [] [] pos) (tTryM K l tb Wout) := by
  subst hK
  exact ps_try_many hs hf tk hb hh
end
section
variable {K : PySem.W.Frag} {ct ct2 : Ct} {H0 : Hp} {W : WX} {S : Sh} {s : Stt} {σ : St} {H : Hp}
/-! ## the suite's exception -/
def unX : Option Ent → Option Ent
  | some (.xn _) => none
  | e => e
def dropX (i : Nat) (s : Stt) : Stt := ⟨(s.env.map unX).set i none, s.M⟩
def enterX (i : Nat) (x : Exn) (s : Stt) : Stt := ⟨(s.env.map unX).set i (some (.xn x)), s.M⟩
theorem CnOk.chg {n : Nat} {p : Addr} {c : Cn} (e : ct2.c = ct.c) (h : CnOk K ct S n H p c) : CnOk K ct2 S n H p c := by
  cases c with
  | obj c fs =>
    obtain ⟨dx, fvs, h1, h2⟩ := h
    refine ⟨dx, fvs, ?_, h2⟩
    rw [e]; exact h1
  | _ => exact h
theorem Rel.chg (e : ct2.c = ct.c) (el : ct2.lk = ct.lk) (r : Rel K ct H0 S s σ H) : Rel K ct2 H0 S ⟨s.env.map unX, s.M⟩ σ H := by
  refine ⟨by rw [el]; exact r.sub, r.lg, r.dom, by show _ = (s.env.map unX).length; rw [List.length_map]; exact r.len, fun i en q => ?_, fun k c q => ⟨(r.ids k c q).1, (r.ids k c q).2.chg e⟩⟩
  have q1 : (s.env.map unX)[i]? = some (some en) := q
  rw [List.getElem?_map] at q1
  obtain ⟨z, e1, e2⟩ := Option.map_eq_some_iff.mp q1
  cases z with
  | none => cases e2
  | some z =>
    cases z with
    | xn x => cases e2
    | fz d => cases e2; exact r.slot i _ e1
    | ow c =>
      cases e2
      obtain ⟨p, h1, h2, h3, h4, h5⟩ := r.slot i _ e1
      exact ⟨p, h1, h2, h3, h4, h5.chg e⟩
theorem Rel.setXn {i : Nat} {a : Addr} {x : Exn} {d : Option Addr} (r : Rel K ct H0 S s σ H) (hx : ct.xa = some (a, ct x.cls, d)) (h : XOk K S s.M.length H x d) : Rel K ct H0 (S.un i) ⟨s.env.set i (some (.xn x)), s.M⟩ (σ.set i (some (.ref a))) H := by
  refine ⟨r.sub, fun a l q => r.lg a l (un_of q), r.dom, by rw [List.length_set]; show _ = (s.env.set i _).length; rw [List.length_set]; exact r.len, fun j en q => ?_, fun k c q => ?_⟩
  · have q1 : (s.env.set i (some (.xn x)))[j]? = some (some en) := q
    by_cases z : i = j
    · subst z
      have hlt : i < s.env.length := by
        have := (List.getElem?_eq_some_iff.mp q1).1
        rw [List.length_set] at this; exact this
      rw [List.getElem?_set_self hlt] at q1
      cases q1
      exact ⟨a, d, hx, List.getElem?_set_self (by rw [r.len]; exact hlt), h.mono (S := S) (n := s.M.length) (H := H) (fun _ _ e => e) (fun _ _ => rfl) (Nat.le_refl _)⟩
    · rw [List.getElem?_set_ne z] at q1
      have hh := r.slot j en q1
      cases en with
      | fz d' => obtain ⟨w, k1, k2⟩ := hh; exact ⟨w, by rw [List.getElem?_set_ne z]; exact k1, k2⟩
      | xn x => exact xn_mono (S := S) (n := s.M.length) (H := H) (fun _ _ e => e) (fun _ _ => rfl) (Nat.le_refl _) (List.getElem?_set_ne z) hh
      | ow c =>
        obtain ⟨p, k1, k2, k3, k4, k5⟩ := hh
        exact ⟨p, by rw [List.getElem?_set_ne z]; exact k1, k2, un_lab k3 (fun w => by cases w; exact z rfl), k4, cn_un k5⟩
  · obtain ⟨k1, k2⟩ := r.ids k c q
    exact ⟨un_lab k1 (fun w => by cases w), cn_un k2⟩
theorem ItOk.chg {Hs : Hp} {v : V} {a : AI} {i : Nat} {s' : Stt} (hM : s'.M = s.M) (e : ct2.c = ct.c) (h : ItOk K ct Hs S s [] H v a) : ItOk K ct2 Hs (S.un i) s' [] H v a := by
  cases a with
  | val d => show Rp K S.G S.α s'.M.length v d; rw [hM]; exact h
  | slot j => simp [ItOk] at h
  | new c =>
    obtain ⟨p, rfl, h1, h2, h3, h4, h5⟩ := h
    refine ⟨p, rfl, h1, ?_, h3, h4, by rw [hM]; exact cn_un (h5.chg e)⟩
    show (if S.lab p = some (.slot i) then none else S.lab p) = none
    rw [h2]; rfl
/-! ## try -/
def leaveX (i : Nat) : Rs → Rs
  | .nx s => .nx (dropX i s)
  | .bk s => .bk (dropX i s)
  | .ct s => .ct (dropX i s)
  | .rt a s => .rt a (dropX i s)
  | _ => .no
def mTryA (cat : Nat → Option Bool) (i : Nat) (mb ms : Ms) : Ms := fun s => match mb s with
  | .er x s1 => match cat x.cls with
    | some true => leaveX i (ms (enterX i x s1))
    | some false => .er x s1
    | none => .no
  | r => r
theorem sv_tryA {c : Value} {i : Nat} {tb : WX → TS} {ts : Addr → Value → Option Addr → TS} {cat : Nat → Option Bool} {mb ms : Ms} (hcat : ∀ k b, cat k = some b → PySem.W.exmOne K (.ref (ct k)) c = some b) (hb : ∀ W, Sv K ct H0 W (tb W) mb)
    (hs : ∀ a C d, Sv K ⟨ct.c, some (a, C, d), ct.lk⟩ H0 (fun _ _ _ _ => False) (ts a (.ref C) d) ms) : Sv K ct H0 W (tTryA K c i tb ts W) (mTryA cat i mb ms) := fun S s σ H Dn rel p => by
  refine hb _ S s σ H Dn rel ?_
  unfold mTryA at p
  cases q : mb s with
  | nx s1 => rw [q] at p; exact p
  | bk s1 => rw [q] at p; exact p
  | ct s1 => rw [q] at p; exact p
  | rt a s1 => rw [q] at p; exact p
  | no => rw [q] at p; exact p
  | er x s1 =>
    rw [q] at p
    simp only [] at p
    intro S1 σ1 H1 dd st1 rel1 xo
    cases hcx : cat x.cls with
    | none => rw [hcx] at p; exact False.elim p
    | some b =>
      rw [hcx] at p
      refine ⟨b, hcat _ _ hcx, fun eb a ha => ?_, fun eb => ?_⟩
      · subst eb
        simp only [] at p
        have rel2 : Rel K ⟨ct.c, some (a, ct x.cls, dd), ct.lk⟩ H0 (S1.un i) (enterX i x s1) (σ1.set i (some (.ref a))) H1 := (Rel.chg (ct := ct) (ct2 := ⟨ct.c, some (a, ct x.cls, dd), ct.lk⟩) rfl rfl rel1).setXn rfl xo
        refine hs a (ct x.cls) dd (S1.un i) (enterX i x s1) _ H1 _ rel2 ?_
        have bk : ∀ {S3 : Sh} {s3 : Stt} {σ3 : St} {H3 : Hp}, Rel K ⟨ct.c, some (a, ct x.cls, dd), ct.lk⟩ H0 S3 s3 σ3 H3 → Rel K ct H0 (S3.un i) (dropX i s3) (σ3.set i none) H3 := fun r3 => (Rel.chg (ct := ⟨ct.c, some (a, ct x.cls, dd), ct.lk⟩) (ct2 := ct) rfl rfl r3).setN2
        have stp : ∀ {S3 : Sh} {s3 : Stt} {H3 : Hp}, Stp (S1.un i) (enterX i x s1).M.length H1 S3 s3.M.length H3 → Stp S s.M.length H (S3.un i) (dropX i s3).M.length H3 := fun t3 => ((st1.trans .un).trans t3).trans .un
        cases q2 : ms (enterX i x s1) with
        | nx s3 => rw [q2] at p; exact fun S3 σ3 H3 st3 rel3 => p _ _ H3 (stp st3) (bk rel3)
        | bk s3 => rw [q2] at p; exact fun S3 σ3 H3 st3 rel3 => p _ _ H3 (stp st3) (bk rel3)
        | ct s3 => rw [q2] at p; exact fun S3 σ3 H3 st3 rel3 => p _ _ H3 (stp st3) (bk rel3)
        | rt a' s3 => rw [q2] at p; exact fun S3 σ3 v H3 st3 rel3 it => p _ _ v H3 (stp st3) (bk rel3) (ItOk.chg (ct := ⟨ct.c, some (a, ct x.cls, dd), ct.lk⟩) rfl rfl it)
        | er x' s3 => rw [q2] at p; exact False.elim p
        | no => rw [q2] at p; exact False.elim p
      · subst eb
        exact p S1 σ1 H1 dd st1 rel1 xo
/-! ### without a name, several clauses -/
def noEr : Rs → Rs
  | .er _ _ => .no
  | r => r
def clauses : List ((Nat → Option Bool) × Ms) → Exn → Ms
  | [], x => fun s => .er x s
  | (cat, ms) :: l, x => fun s => match cat x.cls with
    | some true => noEr (ms s)
    | some false => clauses l x s
    | none => .no
def mTryM (l : List ((Nat → Option Bool) × Ms)) (mb : Ms) : Ms := fun s => match mb s with
  | .er x s1 => clauses l x s1
  | r => r
inductive ClOk (K : PySem.W.Frag) (ct : Ct) (H0 : Hp) : List ((Nat → Option Bool) × Ms) → List (Value × (Addr → Value → Option Addr → TS)) → Prop
  | nil : ClOk K ct H0 [] []
  | cons {cat : Nat → Option Bool} {ms : Ms} {c : Value} {ts : Addr → Value → Option Addr → TS} {l : List ((Nat → Option Bool) × Ms)} {ls : List (Value × (Addr → Value → Option Addr → TS))} (hcat : ∀ k b, cat k = some b → PySem.W.exmOne K (.ref (ct k)) c = some b) (hs : ∀ a C d, Sv K ct H0 (fun _ _ _ _ => False) (ts a (.ref C) d) ms) (r : ClOk K ct H0 l ls) : ClOk K ct H0 ((cat, ms) :: l) ((c, ts) :: ls)
theorem noEr_ok {Dn : Ends} {r : Rs} (h : PstS K ct H0 W S s H Dn (noEr r)) : PstS K ct H0 (fun _ _ _ _ => False) S s H Dn r := by
  cases r with
  | er x s' => exact False.elim h
  | _ => exact h
theorem clauses_ok {Dn : Ends} {x : Exn} {dd : Option Addr} (rel : Rel K ct H0 S s σ H) (xo : XOk K S s.M.length H x dd) : ∀ {l : List ((Nat → Option Bool) × Ms)} {ls : List (Value × (Addr → Value → Option Addr → TS))}, ClOk K ct H0 l ls → PstS K ct H0 W S s H Dn (clauses l x s) → wMany K W Dn ls (.ref (ct x.cls)) dd σ H
  | _, _, .nil, p => p S σ H dd .refl rel xo
  | _, _, .cons (cat := cat) (ms := ms) (l := l) hcat hs r, p => by
    have p : PstS K ct H0 W S s H Dn (match cat x.cls with | some true => noEr (ms s) | some false => clauses l x s | none => .no) := p
    cases hcx : cat x.cls with
    | none => rw [hcx] at p; exact False.elim p
    | some b =>
      rw [hcx] at p
      refine ⟨b, hcat _ _ hcx, fun eb a ha => ?_, fun eb => ?_⟩
      · subst eb
        exact hs a _ dd S s σ H Dn rel (noEr_ok p)
      · subst eb
        exact clauses_ok rel xo r p
theorem sv_tryM {tb : WX → TS} {mb : Ms} {l : List ((Nat → Option Bool) × Ms)} {ls : List (Value × (Addr → Value → Option Addr → TS))} (hb : ∀ W, Sv K ct H0 W (tb W) mb) (hl : ClOk K ct H0 l ls) : Sv K ct H0 W (tTryM K ls tb W) (mTryM l mb) := fun S s σ H Dn rel p => by
  refine hb _ S s σ H Dn rel ?_
  unfold mTryM at p
  cases q : mb s with
  | nx s1 => rw [q] at p; exact p
  | bk s1 => rw [q] at p; exact p
  | ct s1 => rw [q] at p; exact p
  | rt a s1 => rw [q] at p; exact p
  | no => rw [q] at p; exact p
  | er x s1 =>
    rw [q] at p
    intro S1 σ1 H1 dd st1 rel1 xo
    exact clauses_ok rel1 xo hl (PstS.from p st1)
/-! ## e.f, isinstance(e, C) in the suite -/
def xnAt (s : Stt) (i : Nat) : Option Exn := match (s.env[i]?).getD none with
  | some (.xn x) => some x
  | _ => none
theorem xnAt_eq {i : Nat} {x : Exn} (h : xnAt s i = some x) : s.env[i]? = some (some (.xn x)) := by
  unfold xnAt at h
  cases q : s.env[i]? with
  | none => rw [q] at h; cases h
  | some z =>
    rw [q] at h
    cases z with
    | none => cases h
    | some z => cases z <;> cases h; rfl
def mXf (i c : Nat) (f : Str) : Mo AI := fun s => match xnAt s i with
  | some x => if x.cls = c then (match x.fs.lookup f with | some d => .ok (.val d) s | none => .no) else .no
  | none => .no
theorem lookup_rp {f : Str} {G : Hp} {α : Nat → Addr} {n : Nat} : ∀ {fvs : List (Str × V)} {fs : List (Str × D)} {d : D}, fvs.map Prod.fst = fs.map Prod.fst → RpL K G α n (fvs.map Prod.snd) (fs.map Prod.snd) → fs.lookup f = some d → ∃ v, fvs.lookup f = some v ∧ Rp K G α n v d
  | [], [], _, _, _, e => by cases e
  | (g, v) :: fvs, (g', d') :: fs, d, hk, .cons hr r, e => by
    rw [List.map_cons, List.map_cons] at hk
    obtain ⟨h1, h2⟩ := List.cons.inj hk
    have h1 : g = g' := h1
    subst h1
    rw [List.lookup_cons] at e ⊢
    cases q : (f == g) with
    | true => rw [q] at e; cases e; exact ⟨v, rfl, hr⟩
    | false => rw [q] at e; exact lookup_rp h2 r e
theorem ei_xf {i c : Nat} {f : Str} {a C : Addr} {d : Option Addr} (hxa : ct.xa = some (a, C, d)) : Ei K ct H0 W (tXf a (.ref C) d (ct c) f (tVar i)) (mXf i c f) := fun S s σ H Q rel p => by
  unfold mXf at p
  split at p
  · rename_i x e
    obtain ⟨a', d', h1, h2, h3⟩ := rel.slot i _ (xnAt_eq e)
    rw [hxa] at h1
    cases h1
    split at p
    · rename_i hc
      split at p
      · rename_i dv el
        rcases h3 with ⟨k1, _⟩ | ⟨dd, fvs, rfl, k1, k2, k3⟩
        · rw [k1] at el; cases el
        · obtain ⟨v, l1, l2⟩ := lookup_rp k2 k3 el
          exact ⟨_, h2, rfl, by rw [hc], dd, fvs, v, rfl, uX' (rel.sub _ _ k1), l1, p S v H .refl rel l2⟩
      · exact False.elim p
    · exact False.elim p
  · exact False.elim p
def mIsX (i : Nat) (tbl : Nat → Option Bool) : Mo AI := fun s => match xnAt s i with
  | some x => match tbl x.cls with
    | some b => .ok (.val (.bl b)) s
    | none => .no
  | none => .no
theorem ei_isX {i : Nat} {a C : Addr} {d : Option Addr} {c : V} {cv : Value} {tbl : Nat → Option Bool} (hxa : ct.xa = some (a, C, d)) (hc : ∀ u, RelV c u → u = cv) (ht : ∀ k b, tbl k = some b → ExcC K (ct k) ∧ PySem.W.kitOne K (.ref (ct k)) cv = some b) : Ei K ct H0 W (tCB (rIsX K (.ref C) a d) (tCons (tVar i) (tCons (tC c) tNil))) (mIsX i tbl) := fun S s σ H Q rel p => by
  unfold mIsX at p
  split at p
  · rename_i x e
    obtain ⟨a', d', h1, h2, h3⟩ := rel.slot i _ (xnAt_eq e)
    rw [hxa] at h1
    cases h1
    split at p
    · rename_i b eb
      obtain ⟨k1, k2⟩ := ht _ _ eb
      refine ⟨_, h2, ct x.cls, c, cv, b, rfl, k1, rfl, hc, k2, ?_, p S _ H .refl rel (.bl b)⟩
      rcases h3 with ⟨_, k⟩ | ⟨dd, fvs, k, k3, _⟩
      · exact .inl k
      · exact .inr ⟨dd, fvs, k, uX' (rel.sub _ _ k3)⟩
    · exact False.elim p
  · exact False.elim p
/-! ## raise -/
def mRaise (c : Nat) : Ms := fun s => .er ⟨c, []⟩ s
theorem sv_raise {c : Nat} : Sv K ct H0 W (tRaiseZ (ct c) W) (mRaise c) := fun S s σ H Dn rel p => p S σ H none .refl rel (.inl ⟨rfl, rfl⟩)
/-- __init__(self, words, f): B.__init__(self, words); self.f = f -/
def spA (K : PySem.W.Frag) (C : Addr) (f : Str) : Sp := fun vs H Q E => ∃ (a : Addr) (w x : V), vs = [.ref a, w, x] ∧ OexC K C ∧ PySem.W.findIn K (.ref C) f = some none ∧ H a = some (exo a C none) ∧ ∀ dx, H dx = none → dx ≠ a → Q .non (upd (upd H dx (exd dx [(f, x)])) a (exo a C (some dx)))
theorem spA_len {C : Addr} {f : Str} {vs : List V} {Q : VK} {E : XK} (h : spA K C f vs H Q E) : vs.length = 3 := by
  obtain ⟨a, w, x, rfl, _⟩ := h; rfl
theorem initA {C : Addr} {f n1 n2 n3 : Str} {vs : List V} {Q : VK} {E : XK} (h : spA K C f vs H Q E) :
    tSeq (tDrop (tVeI K (tCons (tVar 0) (tCons (tVar 1) tNil)))) (tOst K f (tVar 0) (tVar 2)) { nx := fun _ H' => Q .non H', rt := Q } (start [n1, n2, n3] vs) H := by
  obtain ⟨a, w, x, rfl, T, hf, ha, q⟩ := h
  refine ⟨_, rfl, _, rfl, a, C, [w], rfl, (by show 1 ≤ 1000; decide), T, ha, ?_⟩
  exact ⟨x, rfl, .ref a, rfl, a, C, rfl, T, hf, .inl ⟨ha, fun dx h1 h2 => q dx h1 h2⟩⟩
def mRaiseA (c : Nat) (f : Str) (m : Mo (List D)) : Ms := fun s => (m s).toS fun ds s1 => match ds with
  | [_, x] => .er ⟨c, [(f, x)]⟩ s1
  | _ => .no
def tRaiseA (C : Addr) (sp : Sp) (W : WX) (ta : TA) : TS := fun _ σ H => tMkO C sp [] ta σ H fun cls d H' => W cls d σ H'
theorem RpL.two {G : Hp} {α : Nat → Addr} {n : Nat} {vs : List V} {x y : D} (h : RpL K G α n vs [x, y]) : ∃ u v, vs = [u, v] ∧ Rp K G α n u x ∧ Rp K G α n v y := by
  cases h with
  | cons h1 h => cases h with
    | cons h2 h => cases h; exact ⟨_, _, rfl, h1, h2⟩
theorem sv_raiseA {c : Nat} {f : Str} {ta : TA} {m : Mo (List D)} (T : OexC K (ct c)) (hf : PySem.W.findIn K (.ref (ct c)) f = some none) (h : EvL K ct H0 W ta m) : Sv K ct H0 W (tRaiseA (ct c) (spA K (ct c) f) W ta) (mRaiseA c f m) := fun S s σ H Dn rel p =>
  h S s σ H _ rel (PstS.bind p fun S1 s1 H1 vs ds st1 rel1 i1 p1 => by
    split at p1
    · rename_i y x
      obtain ⟨u, v, rfl, r1, r2⟩ := RpL.two i1
      refine ⟨(by show 2 ≤ 1000; decide), fun a ha => ⟨a, u, v, rfl, T, hf, upd_same, fun dx hdx hne => ⟨rfl, dx, [(f, v)], upd_same, by rw [upd_ne hne, upd_same], (upd_none.mp hdx).2, ?_⟩⟩⟩
      have hd : H1 dx = none := (upd_none.mp hdx).2
      have eh : upd (L2.del (upd (upd (upd H1 a (exo a (ct c) none)) dx (exd dx [(f, v)])) a (exo a (ct c) (some dx))) a) dx (.xd [(f, v)]) = upd H1 dx (.xd [(f, v)]) := by
        funext b
        by_cases e1 : b = dx
        · rw [e1, upd_same, upd_same]
        · rw [upd_ne e1, upd_ne e1]
          by_cases e2 : b = a
          · rw [e2, L2.del_same, ha]
          · rw [L2.del_ne e2, upd_ne e2, upd_ne e1, upd_ne e2]
      rw [eh]
      have rel2 := (rel1.new (o := .xd [(f, v)]) hd).frz (p := dx) (uX upd_same) (rel1.labN hd) (rel1.gN hd)
      have st2 : Stp S1 s1.M.length H1 (S1.frz dx (.xd [(f, v)])) s1.M.length (upd H1 dx (.xd [(f, v)])) := Stp.frz (rel1.gN hd) (.inl hd) (fun b e => (upd_none.mp e).2) (fun b w e _ => by rw [upd_ne (ne_of_none e hd)]; exact e)
      exact p1 _ σ _ (some dx) (st1.trans st2) rel2 (.inr ⟨dx, [(f, v)], rfl, upd_same, rfl, .cons (r2.mono st2.g st2.al st2.le) .nil⟩)
    · exact False.elim p1)
end
end Y

namespace Y
open PySem L2 Z
/-! ## a def that lets nothing out, though it has a try -/
def mFn0 (np n : Nat) (body : Ms) : Mf := mFn np n fun s => noEr (body s)
section
variable {K : PySem.W.Frag} {ct : Ct} {H : Hp}
theorem sv_no {H0 : Hp} {W : WX} {t : TS} {m : Ms} (h : Sv K ct H0 (fun _ _ _ _ => False) t m) : Sv K ct H0 W t fun s => noEr (m s) := fun S s σ H Dn rel p => h S s σ H Dn rel (noEr_ok p)
theorem fn_run0 {N : List Str} {np : Nat} {t : TS} {body : Ms} {vs : List V} {Q : VK} {E : XK} (hb : Sv K ct H (fun _ _ _ _ => False) t body) (h : spM K ct (mFn0 np N.length body) vs H Q E) : t { nx := fun _ H' => Q .non H', rt := Q } (start N vs) H := fn_run (sv_no hb) h
end
theorem sp_len0 {K : PySem.W.Frag} {ct : Ct} {H : Hp} {np n : Nat} {body : Ms} {vs : List V} {Q : VK} {E : XK} (h : spM K ct (mFn0 np n body) vs H Q E) : vs.length = np := sp_len (body := fun s => noEr (body s)) h
/-! ## steps -/
def Fx (P : AI → List Cn → Prop) (E : Exn → List Cn → Prop) : Fr → Prop
  | .ok a M => P a M
  | .er x M => E x M
  | .no => False
def Ox (P : AI → List Cn → Prop) (E : Exn → List Cn → Prop) : Rs → Prop
  | .rt a s => P a s.M
  | .er x s => E x s.M
  | _ => False
section
variable {QA : AI → Stt → Prop} {X : Exn → Stt → Prop} {N : Stt → Prop} {O : Rs → Prop} {s : Stt} {M : List Cn} {P P' : AI → List Cn → Prop} {E E' : Exn → List Cn → Prop}
theorem f_fnX {np n : Nat} {b : Ms} {ds : List D} (hl : ds.length = np) (h : Ws (fun s => P (.val .non) s.M) (Ox P E) (b ⟨ds.map (fun d => some (.fz d)) ++ List.replicate (n - ds.length) none, M⟩)) : Fx P E (mFn np n b ds M) := by
  unfold mFn
  rw [if_pos hl]
  cases q : b ⟨ds.map (fun d => some (.fz d)) ++ List.replicate (n - ds.length) none, M⟩ <;> rw [q] at h <;> exact h
theorem f_fn0 {np n : Nat} {b : Ms} {ds : List D} (hl : ds.length = np) (h : Ws (fun s => P (.val .non) s.M) (Oe P) (b ⟨ds.map (fun d => some (.fz d)) ++ List.replicate (n - ds.length) none, M⟩)) : Fo P (mFn0 np n b ds M) := by
  refine f_fn hl ?_
  cases q : b ⟨ds.map (fun d => some (.fz d)) ++ List.replicate (n - ds.length) none, M⟩ <;> rw [q] at h <;> exact h
theorem fx_use {r : Fr} (h : Fx P E r) (k : ∀ a M', P a M' → P' a M') (k2 : ∀ x M', E x M' → E' x M') : Fx P' E' r := by
  cases r with
  | ok a M => exact k a M h
  | er x M => exact k2 x M h
  | no => exact h
theorem fx_eq {r : Fr} {a : AI} {M' : List Cn} (e : r = .ok a M') (h : P a M') : Fx P E r := by subst e; exact h
theorem fx_er {r : Fr} {x : Exn} {M' : List Cn} (e : r = .er x M') (h : E x M') : Fx P E r := by subst e; exact h
theorem fx_ok {r : Fr} {a : AI} {M' : List Cn} (h : Fx (fun a' M'' => a' = a ∧ M'' = M') (fun _ _ => False) r) : r = .ok a M' := by
  cases r with
  | ok a' M'' => obtain ⟨rfl, rfl⟩ := h; rfl
  | er _ _ => exact False.elim h
  | no => exact False.elim h
theorem fx_isEr {r : Fr} {x : Exn} {M' : List Cn} (h : Fx (fun _ _ => False) (fun x' M'' => x' = x ∧ M'' = M') r) : r = .er x M' := by
  cases r with
  | ok a' M'' => exact False.elim h
  | er _ _ => obtain ⟨rfl, rfl⟩ := h; rfl
  | no => exact False.elim h
theorem w_call {f : Mf} {ma : Mo (List D)} (h : Wo (fun ds s1 => Fx (fun a M' => QA a ⟨s1.env, M'⟩) (fun x M' => X x ⟨s1.env, M'⟩) (f ds s1.M)) X (ma s)) : Wo QA X (mCall f ma s) := w_bind (w_mono h fun ds s1 h => by
  show Wo QA X (match f ds s1.M with | .ok a M' => _ | .er x M' => _ | .no => _)
  cases q : f ds s1.M <;> rw [q] at h <;> exact h)
theorem w_raise {c : Nat} (h : O (.er ⟨c, []⟩ s)) : Ws N O (mRaise c s) := h
theorem w_raiseA {c : Nat} {f : Str} {m : Mo (List D)} (h : Wo (fun ds s1 => ∃ w x, ds = [w, x] ∧ O (.er ⟨c, [(f, x)]⟩ s1)) (fun x s => O (.er x s)) (m s)) : Ws N O (mRaiseA c f m s) := w_toS (w_mono h fun ds s1 ⟨w, x, e, h⟩ => by subst e; exact h)
/-- behind a suite -/
def Olv (i : Nat) (O : Rs → Prop) : Rs → Prop
  | .bk s => O (.bk (dropX i s))
  | .ct s => O (.ct (dropX i s))
  | .rt a s => O (.rt a (dropX i s))
  | _ => False
def Otry (cat : Nat → Option Bool) (i : Nat) (ms : Ms) (N : Stt → Prop) (O : Rs → Prop) : Rs → Prop
  | .er x s1 => (cat x.cls = some true ∧ Ws (fun s => N (dropX i s)) (Olv i O) (ms (enterX i x s1))) ∨ (cat x.cls = some false ∧ O (.er x s1))
  | r => O r
theorem w_tryA {cat : Nat → Option Bool} {i : Nat} {mb ms : Ms} (h : Ws N (Otry cat i ms N O) (mb s)) : Ws N O (mTryA cat i mb ms s) := by
  unfold mTryA
  cases q : mb s with
  | er x s1 =>
    rw [q] at h
    rcases h with ⟨e, h⟩ | ⟨e, h⟩
    · simp only []
      rw [e]
      simp only []
      cases q2 : ms (enterX i x s1) <;> rw [q2] at h <;> exact h
    · simp only []
      rw [e]
      exact h
  | _ => rw [q] at h; exact h
theorem w_xf {i c : Nat} {f : Str} {x : Exn} {d : D} (e : xnAt s i = some x) (hc : x.cls = c) (l : x.fs.lookup f = some d) (h : QA (.val d) s) : Wo QA X (mXf i c f s) := by
  unfold mXf; rw [e]; simp only []; rw [if_pos hc, l]; exact h
theorem w_isX {i : Nat} {tbl : Nat → Option Bool} {x : Exn} {b : Bool} (e : xnAt s i = some x) (l : tbl x.cls = some b) (h : QA (.val (.bl b)) s) : Wo QA X (mIsX i tbl s) := by
  unfold mIsX; rw [e]; simp only []; rw [l]; exact h
def Ocl (l : List ((Nat → Option Bool) × Ms)) (N : Stt → Prop) (O : Rs → Prop) : Rs → Prop
  | .er x s1 => Ws N O (clauses l x s1)
  | r => O r
theorem w_tryM {l : List ((Nat → Option Bool) × Ms)} {mb : Ms} (h : Ws N (Ocl l N O) (mb s)) : Ws N O (mTryM l mb s) := by
  unfold mTryM
  cases q : mb s <;> rw [q] at h <;> exact h
theorem w_clY {cat : Nat → Option Bool} {ms : Ms} {l : List ((Nat → Option Bool) × Ms)} {x : Exn} (e : cat x.cls = some true) (h : Ws N (fun r => match r with | .er _ _ => False | r => O r) (ms s)) : Ws N O (clauses ((cat, ms) :: l) x s) := by
  show Ws N O (match cat x.cls with | some true => noEr (ms s) | some false => clauses l x s | none => .no)
  rw [e]
  simp only []
  cases q : ms s <;> rw [q] at h <;> exact h
theorem w_clN {cat : Nat → Option Bool} {ms : Ms} {l : List ((Nat → Option Bool) × Ms)} {x : Exn} (e : cat x.cls = some false) (h : Ws N O (clauses l x s)) : Ws N O (clauses ((cat, ms) :: l) x s) := by
  show Ws N O (match cat x.cls with | some true => noEr (ms s) | some false => clauses l x s | none => .no)
  rw [e]; exact h
theorem w_cl0 {x : Exn} (h : O (.er x s)) : Ws N O (clauses [] x s) := h
end
end Y

namespace Y
open PySem L2 Z
section
variable {K : PySem.W.Frag} {ct : Ct} {H0 : Hp} {W : WX}
/-! ## abs -/
def rAbs : List V → Hp → VK → Prop := fun xs H Q => ∃ i : Int, xs = [.int i] ∧ Q (.int (if i < 0 then -i else i)) H
theorem call_absY {X : Cx} : CallR X (.builtin "abs") rAbs := call_abs
def fAbs (s : Stt) (as : List AI) : Ro AI := match as with
  | [.val (.int i)] => .ok (.val (.int (if i < 0 then -i else i))) s
  | _ => .no
theorem jb_abs : JB K ct H0 rAbs fAbs := fun W S s σ H Hs vs as Q rel ia p => by
  unfold fAbs at p
  split at p
  · rename_i i
    obtain ⟨v, rfl, h⟩ := as1 ia
    cases rp_int h
    exact ⟨i, rfl, p.val rel (.int _)⟩
  · exact False.elim p
/-! ## text.index(text) -/
def sIdx (a b : Str) : Option Nat := (Builtin.Str.occurrences a b 0 a.length 1).head?
def rSIdx : V → List V → Hp → VK → Prop := fun x xs H Q => ∃ a b i rest, x = .str a ∧ xs = [.str b] ∧ Builtin.Str.occurrences a b 0 a.length 1 = i :: rest ∧ Q (.int (i : Nat)) H
theorem pe_sidx {X : Cx} {o e : Expr} {to te : TE} {apos pos : Pos} (ho : PE X o to) (he : PE X e te) (hs : starEach [e] X.env = [(false, eval e X.env)] := by rfl) (hbase : attributeBase o "index" X.env (eval o X.env) = eval o X.env := by rfl) (hline : (apos.endLine == pos.line) = true := by rfl) :
    PE X (.Call (.Attribute o "index" apos) [e] [] pos) (tM1 rSIdx to te) := pe_m1 F.slot_str_index F.type_str_index mt_sindex ho he hs hbase hline
def mSIdx (mo ma : Mo AI) : Mo AI := fun s => (mo s).bind fun a s1 => match a with
  | .val (.str x) => (ma s1).bind fun b s2 => match b with
    | .val (.str y) => match sIdx x y with
      | some i => .ok (.val (.int (i : Nat))) s2
      | none => .no
    | _ => .no
  | _ => .no
theorem ei_sidx {to te : TE} {mo ma : Mo AI} (ho : Ei K ct H0 W to mo) (ha : Ei K ct H0 W te ma) : Ei K ct H0 W (tM1 rSIdx to te) (mSIdx mo ma) := fun S s σ H Q rel p =>
  ho S s σ H _ rel (Pst.bind bI p fun S1 s1 H1 x a st1 rel1 i1 p1 => by
    split at p1
    · rename_i z
      cases rp_str i1
      refine ⟨⟨z, rfl⟩, ha S1 s1 σ H1 _ rel1 (Pst.bind bI p1 fun S2 s2 H2 y b st2 rel2 i2 p2 => ?_)⟩
      split at p2
      · rename_i w
        cases rp_str i2
        split at p2
        · rename_i i e
          unfold sIdx at e
          obtain ⟨r, hr⟩ : ∃ r, Builtin.Str.occurrences z w 0 z.length 1 = i :: r := by
            cases q : Builtin.Str.occurrences z w 0 z.length 1 with
            | nil => rw [q] at e; cases e
            | cons j r => rw [q] at e; cases e; exact ⟨r, rfl⟩
          exact ⟨z, w, i, r, rfl, rfl, hr, p2.val rel2 (.int _)⟩
        · exact False.elim p2
      · exact False.elim p2
    · exact False.elim p1)
end
section
variable {s : Stt} {X : Exn → Stt → Prop} {QA : AI → Stt → Prop} {QI : Im → Stt → Prop} {m1 m2 : Mo AI}
theorem w_abs {i : Int} (h : QA (.val (.int (if i < 0 then -i else i))) s) : Wo QA X (fAbs s [.val (.int i)]) := h
theorem w_sidx (h : Wo (fun a s1 => ∃ x, a = .val (.str x) ∧ Wo (fun b s2 => ∃ y i, b = .val (.str y) ∧ sIdx x y = some i ∧ QA (.val (.int (i : Nat))) s2) X (m2 s1)) X (m1 s)) : Wo QA X (mSIdx m1 m2 s) := w_bind (w_mono h fun a s1 ⟨x, e, h⟩ => by
  subst e
  exact w_bind (w_mono h fun b s2 ⟨y, i, e, e2, h⟩ => by
    subst e
    show Wo QA X (match sIdx x y with | some i => _ | none => _)
    rw [e2]; exact h))
open Classical in
theorem w_rng3 {r : Mo (List AI)} (h : Wo (fun as s1 => ∃ (i j c : Int) (n : Nat), as = [.val (.int i), .val (.int j), .val (.int c)] ∧ RgC i j c n ∧ QI ⟨rngC i c n, none⟩ s1) X (r s)) : Wo QI X (mRng3 r s) := w_bind (w_mono h fun as s1 ⟨i, j, c, n, e, hz, h⟩ => by
  subst e
  have en : (Builtin.Range.rangeSize i j c).toNat = n := by rw [hz.2.2.2]; rfl
  show Wo QI X (if RgC i j c (Builtin.Range.rangeSize i j c).toNat then Ro.ok ⟨rngC i c (Builtin.Range.rangeSize i j c).toNat, none⟩ s1 else _)
  rw [en, if_pos hz]; exact h)
theorem rngC_get {lo c : Int} {n i : Nat} {d : D} (h : (rngC lo c n)[i]? = some d) : i < n ∧ d = .int (lo + (i : Int) * c) := by
  unfold rngC at h
  rw [List.getElem?_map] at h
  obtain ⟨k, e1, e2⟩ := Option.map_eq_some_iff.mp h
  obtain ⟨h1, h2⟩ := List.getElem?_eq_some_iff.mp e1
  rw [List.length_range] at h1
  rw [List.getElem_range] at h2
  subst h2
  exact ⟨h1, e2.symm⟩
theorem rngC_len {lo c : Int} {n : Nat} : (rngC lo c n).length = n := by unfold rngC; rw [List.length_map, List.length_range]
end
end Y

namespace Y
open PySem L2 Z
/-! ## a dict is walked -/
inductive KD where
  | keys | vals | items
def kD : Key → D
  | .inl i => .int i
  | .inr x => .str x
def dIt : KD → List (Key × D) → List D
  | .keys, l => l.map fun p => kD p.1
  | .vals, l => l.map Prod.snd
  | .items, l => l.map fun p => .tup [kD p.1, p.2]
def dI : KD → Nat → TI
  | .keys, i => iKeys (tVar i)
  | .vals, i => iVals (tVar i)
  | .items, i => iItems (tVar i)
section
variable {K : PySem.W.Frag} {ct : Ct} {H0 : Hp} {W : WX} {S : Sh} {s : Stt} {σ : St} {H : Hp}
theorem kD_rp {G : Hp} {α : Nat → Addr} {n : Nat} (k : Key) : Rp K G α n (kV k) (kD k) := by
  cases k with
  | inl i => exact .int i
  | inr x => exact .str x
theorem RpK.at {G : Hp} {α : Nat → Addr} {n : Nat} : ∀ {kvs : List (Key × V)} {l : List (Key × D)} {i : Nat} {k : Key} {d : D}, RpK K G α n kvs l → l[i]? = some (k, d) → ∃ v, kvs[i]? = some (k, v) ∧ Rp K G α n v d
  | _, _, _, _, _, .nil, e => by simp at e
  | _, _, 0, _, _, .cons a _, e => by simp at e; obtain ⟨rfl, rfl⟩ := e; exact ⟨_, rfl, a⟩
  | _, _, i + 1, _, _, .cons _ r, e => by
    simp at e
    obtain ⟨v, h1, h2⟩ := r.at e
    exact ⟨v, by simpa using h1, h2⟩
theorem RpK.step' {G G' : Hp} {α α' : Nat → Addr} {n n' : Nat} (g : Same G G') (ha : ∀ k, k < n → α' k = α k) (hn : n ≤ n') : ∀ {kvs : List (Key × V)} {l : List (Key × D)}, RpK K G α n kvs l → RpK K G' α' n' kvs l
  | _, _, .nil => .nil
  | _, _, .cons a r => .cons (a.mono g ha hn) (r.step' g ha hn)
def dJ : KD → Addr → Obj → List (Key × V) → It
  | .keys, d, o, kvs => Itk d o kvs
  | .vals, d, o, kvs => Itd d o kvs
  | .items, d, o, kvs => Iti d o kvs
theorem wk_d {kd : KD} {d : Addr} {o : Obj} {kvs : List (Key × V)} {l : List (Key × D)} (hd : H d = some (.frz o (.dK kvs))) (hl : S.lab d = none) (r : RpK K S.G S.α s.M.length kvs l) : Wk K ct H0 S s.M.length H (dJ kd d o kvs) ⟨dIt kd l, none⟩ := fun S1 s1 σ1 H1 st rel _ => by
  have h1 := (st.fr d _ hd hl).1
  have r1 := r.step' st.g st.al st.le
  have hlen := r.len
  cases kd with
  | keys =>
    refine ⟨fun i x e => ?_, ⟨h1, by show kvs.length ≤ (l.map _).length; rw [List.length_map]; omega⟩⟩
    have e : (l.map fun p => kD p.1)[i]? = some x := e
    rw [List.getElem?_map] at e
    obtain ⟨⟨k, y⟩, e1, rfl⟩ := Option.map_eq_some_iff.mp e
    obtain ⟨v, e2, e3⟩ := r1.at e1
    refine ⟨⟨h1, (List.getElem?_eq_some_iff.mp e2).1⟩, fun x H2 hy => ?_⟩
    obtain ⟨rfl, k', v', q1, rfl⟩ := hy
    rw [e2] at q1; cases q1
    exact ⟨S1, .refl, rel, kD_rp k⟩
  | vals =>
    refine ⟨fun i x e => ?_, ⟨h1, by show kvs.length ≤ (l.map _).length; rw [List.length_map]; omega⟩⟩
    have e : (l.map Prod.snd)[i]? = some x := e
    rw [List.getElem?_map] at e
    obtain ⟨⟨k, y⟩, e1, rfl⟩ := Option.map_eq_some_iff.mp e
    obtain ⟨v, e2, e3⟩ := r1.at e1
    refine ⟨⟨h1, (List.getElem?_eq_some_iff.mp e2).1⟩, fun x H2 hy => ?_⟩
    obtain ⟨rfl, k', q1⟩ := hy
    rw [e2] at q1; cases q1
    exact ⟨S1, .refl, rel, e3⟩
  | items =>
    refine ⟨fun i x e => ?_, ⟨h1, by show kvs.length ≤ (l.map _).length; rw [List.length_map]; omega⟩⟩
    have e : (l.map fun p => D.tup [kD p.1, p.2])[i]? = some x := e
    rw [List.getElem?_map] at e
    obtain ⟨⟨k, y⟩, e1, rfl⟩ := Option.map_eq_some_iff.mp e
    obtain ⟨v, e2, e3⟩ := r1.at e1
    refine ⟨⟨h1, (List.getElem?_eq_some_iff.mp e2).1⟩, fun x H2 hy => ?_⟩
    obtain ⟨T, k', v', q1, rfl, hT, rfl⟩ := hy
    rw [e2] at q1; cases q1
    exact new_tup rel hT (.cons (kD_rp k) (.cons e3 .nil))
theorem dI_go {kd : KD} {i : Nat} {d : Addr} {o : Obj} {kvs : List (Key × V)} {R : It → Hp → Prop} (hs : σ[i]? = some (some (.ref d))) (hd : H d = some (.frz o (.dK kvs))) (h : R (dJ kd d o kvs) H) : dI kd i σ H R := by
  cases kd with
  | keys => exact ⟨_, hs, d, o, rfl, .inl ⟨kvs, hd, h⟩⟩
  | vals => exact ⟨_, hs, d, o, kvs, rfl, hd, h⟩
  | items => exact ⟨_, hs, d, o, kvs, rfl, hd, h⟩
/-! ### the lock -/
def Ct.lkd (ct : Ct) (d : Option Addr) : Ct := ⟨ct.c, ct.xa, d⟩
theorem CnOk.lkd {b : Option Addr} {n : Nat} {p : Addr} {c : Cn} (h : CnOk K ct S n H p c) : CnOk K (ct.lkd b) S n H p c := by
  cases c <;> exact h
theorem CnOk.unlkd {b : Option Addr} {n : Nat} {p : Addr} {c : Cn} (h : CnOk K (ct.lkd b) S n H p c) : CnOk K ct S n H p c := by
  cases c <;> exact h
/-- a frozen dict is locked -/
theorem Rel.lock {d : Addr} {od : Obj} {kvs : List (Key × V)} (hlk : ct.lk = none) (r : Rel K ct H0 S s σ H) (hg : S.G d = some (.dK kvs)) : H d = some (.dK kvs) ∧ Rel K (ct.lkd (some d)) H0 S s σ (upd H d (.frz od (.dK kvs))) := by
  have hs : Same S.G H := by have := r.sub; rw [hlk, U0] at this; exact this
  have hd := hs _ _ hg
  have ne : ∀ {a : Addr} {l : Lab}, S.lab a = some l → a ≠ d := fun {a l} h z => by subst z; rw [(r.lg a l h).1] at hg; cases hg
  have cn : ∀ {a : Addr} {l : Lab} {c : Cn}, S.lab a = some l → CnOk K ct S s.M.length H a c → CnOk K (ct.lkd (some d)) S s.M.length (upd H d (.frz od (.dK kvs))) a c := fun {a l c} hl h => (h.mono (H' := upd H d (.frz od (.dK kvs))) (fun _ _ e => e) (fun _ _ => rfl) (Nat.le_refl _) (fun o e => by rw [upd_ne (ne hl)]; exact e)).lkd
  refine ⟨hd, ⟨fun a u e => ?_, fun a l e => ?_, fun a e => r.dom a (upd_none.mp e).2, r.len, fun i en q => ?_, fun k c q => ?_⟩⟩
  · show U (some d) _ a = some u
    by_cases z : a = d
    · subst z
      rw [hg] at e; cases e
      unfold U; rw [if_pos rfl, upd_same]; rfl
    · unfold U; rw [if_neg (by simp; exact fun q => z q.symm), upd_ne z]; exact hs _ _ e
  · obtain ⟨h1, o, h2⟩ := r.lg a l e
    exact ⟨h1, o, by rw [upd_ne (ne e)]; exact h2⟩
  · have hh := r.slot i en q
    cases en with
    | fz x => exact hh
    | xn x => exact xn_mono (S := S) (n := s.M.length) (H := H) (fun _ _ e => e) (fun _ _ => rfl) (Nat.le_refl _) rfl hh
    | ow c =>
      obtain ⟨p, h1, h2, h3, h4, h5⟩ := hh
      exact ⟨p, h1, h2, h3, h4, cn h3 h5⟩
  · obtain ⟨h1, h2⟩ := r.ids k c q
    exact ⟨h1, cn h1 h2⟩
theorem Rel.unlock {d : Addr} {kvs : List (Key × V)} {S' : Sh} {s' : Stt} {H' : Hp} (hlk : ct.lk = none) (r : Rel K (ct.lkd (some d)) H0 S' s' σ H') (hg : S'.G d = some (.dK kvs)) : Rel K ct H0 S' s' σ (upd H' d (.dK kvs)) := by
  have ne : ∀ {a : Addr} {l : Lab}, S'.lab a = some l → a ≠ d := fun {a l} h z => by subst z; rw [(r.lg a l h).1] at hg; cases hg
  have cn : ∀ {a : Addr} {l : Lab} {c : Cn}, S'.lab a = some l → CnOk K (ct.lkd (some d)) S' s'.M.length H' a c → CnOk K ct S' s'.M.length (upd H' d (.dK kvs)) a c := fun {a l c} hl h => (h.mono (H' := upd H' d (.dK kvs)) (fun _ _ e => e) (fun _ _ => rfl) (Nat.le_refl _) (fun o e => by rw [upd_ne (ne hl)]; exact e)).unlkd
  refine ⟨fun a u e => ?_, fun a l e => ?_, fun a e => r.dom a (upd_none.mp e).2, r.len, fun i en q => ?_, fun k c q => ?_⟩
  · rw [hlk, U0]
    by_cases z : a = d
    · subst z
      rw [hg] at e; cases e; exact upd_same
    · rw [upd_ne z]
      have := r.sub a u e
      have h2 : U (some d) H' a = some u := this
      unfold U at h2; rw [if_neg (by simp; exact fun q => z q.symm)] at h2; exact h2
  · obtain ⟨h1, o, h2⟩ := r.lg a l e
    exact ⟨h1, o, by rw [upd_ne (ne e)]; exact h2⟩
  · have hh := r.slot i en q
    cases en with
    | fz x => exact hh
    | xn x => exact xn_mono (S := S') (n := s'.M.length) (H := H') (fun _ _ e => e) (fun _ _ => rfl) (Nat.le_refl _) rfl hh
    | ow c =>
      obtain ⟨p, h1, h2, h3, h4, h5⟩ := hh
      exact ⟨p, h1, h2, h3, h4, cn h3 h5⟩
  · obtain ⟨h1, h2⟩ := r.ids k c q
    exact ⟨h1, cn h1 h2⟩
theorem Stp.lockd {d : Addr} {od : Obj} {u : HO} {S' : Sh} {n n' : Nat} {H' : Hp} (hd : H d = some u) (t : Stp S n (upd H d (.frz od u)) S' n' H') : Stp S n H S' n' (upd H' d u) where
  g := t.g
  le := t.le
  al := t.al
  fr := fun a o h l => by
    by_cases z : a = d
    · subst z
      rw [hd] at h; cases h
      exact ⟨upd_same, (t.fr a _ upd_same l).2⟩
    · obtain ⟨h1, h2⟩ := t.fr a o (by rw [upd_ne z]; exact h) l
      exact ⟨by rw [upd_ne z]; exact h1, h2⟩
  gn := fun a o e => by
    rcases t.gn a o e with h | h | h
    · exact .inl h
    · exact .inr (.inl (upd_none.mp h).2)
    · exact .inr (.inr h)
  dom := fun a h => (upd_none.mp (t.dom a (upd_none.mp h).2)).2
/-! ### a comprehension over a dict -/
noncomputable def mLcD (kd : KD) (i : Nat) (ws : List Nat) (g : Tg) (c : Mo Bool) (e : Mo AI) : Mo AI := fun s => match entAt s i with
  | some (.fz (.dK l)) => mLc ws (fun s => .ok ⟨dIt kd l, none⟩ s) g c e s
  | some (.ow (.dK l)) => (mLc ws (fun s => .ok ⟨dIt kd l, none⟩ s) g c e ⟨s.env.set i none, s.M⟩).bind fun a s1 => .ok a ⟨s1.env.set i (some (.ow (.dK l))), s1.M⟩
  | _ => .no
theorem mLc_er {ws : List Nat} {im : Im} {g : Tg} {c : Mo Bool} {e : Mo AI} {x : Exn} {s s' : Stt} : mLc ws (fun s => .ok im s) g c e s ≠ .er x s' := fun h => by
  have h : (match lcN ws g c (mV e) im.ck im.xs [] (wipeS ws s) with | .ok l s2 => Ro.ok (AI.new (.lst l)) ⟨rest s.env s2.env ws, s2.M⟩ | _ => .no) = .er x s' := h
  split at h <;> cases h
theorem set_self {σ : St} {i : Nat} {v : V} (h : σ[i]? = some (some v)) : σ.set i (some v) = σ := by
  obtain ⟨h1, h2⟩ := List.getElem?_eq_some_iff.mp h
  rw [← h2]; exact List.set_getElem_self h1
theorem ei_lcD {kd : KD} {i : Nat} {js ws : List Nat} {g : TG} {tt : TT} {te : TE} {f : Tg} {c : Mo Bool} {e : Mo AI} (hlk : ct.lk = none) (hg : ∀ b, Sg K (ct.lkd b) H0 js g f) (hjs : ∀ j ∈ js, j ∈ ws) (hc : ∀ b, Et K (ct.lkd b) H0 W0 tt c) (he : ∀ b, Ei K (ct.lkd b) H0 W0 te e) :
    Ei K ct H0 W (tLockE (tLc (dI kd i) g tt te ws)) (mLcD kd i ws f c e) := fun S s σ H Q rel p => by
  have ect : ct.lkd none = ct := by cases ct; cases hlk; rfl
  unfold mLcD at p
  split at p
  · rename_i l en
    obtain ⟨v, h1, h2⟩ := rel.slot i _ (entAt_eq en)
    cases h2 with
    | @dK d kvs _ k1 k2 k3 =>
      have rk := RpK.of k2 k3
      obtain ⟨hd, _⟩ := rel.lock (od := default) hlk k1
      have hlab : S.lab d = none := by
        cases q : S.lab d with
        | none => rfl
        | some z => rw [(rel.lg d z q).1] at k1; cases k1
      refine ⟨d, _, hd, trivial, fun od => ?_⟩
      have rl := (rel.lock (od := od) hlk k1).2
      refine ei_lcAt (K := K) (ct := ct.lkd (some d)) (H0 := H0) (W := W0) (S := S) (s := s) (mi := fun s => .ok ⟨dIt kd l, none⟩ s) (fun R q => dI_go h1 upd_same (q S _ _ .refl rl (wk_d upd_same hlab rk))) (hg _) hjs (hc _) (he _) ?_
      have hne : ∀ x s', mLc ws (fun s => .ok ⟨dIt kd l, none⟩ s) f c e s ≠ .er x s' := fun _ _ => mLc_er
      generalize mLc ws (fun s => .ok ⟨dIt kd l, none⟩ s) f c e s = R at p hne
      cases R with
      | no => exact p
      | er x s' => exact absurd rfl (hne _ _)
      | ok a s' =>
        intro S' b H' st rel' it
        have hd' := (st.fr d _ upd_same hlab).1
        have g' : S'.G d = some (.dK kvs) := st.g _ _ k1
        refine ⟨hd', p S' b _ (st.lockd hd) (rel'.unlock hlk g') ?_⟩
        cases a with
        | val x => exact it
        | slot j => exact it
        | new c' =>
          obtain ⟨pp, rfl, i1, i2, i3, i4, i5⟩ := it
          have ne : pp ≠ d := fun z => by subst z; rw [i3] at g'; cases g'
          exact ⟨pp, rfl, (upd_none.mp i1).2, i2, i3, i4, (i5.mono (H' := upd H' d (.dK kvs)) (fun _ _ e => e) (fun _ _ => rfl) (Nat.le_refl _) (fun o e => by rw [upd_ne ne]; exact e)).unlkd⟩
  · rename_i l en
    obtain ⟨d, h1, h2, h3, h4, h5⟩ := rel.slot i _ (entAt_eq en)
    obtain ⟨kvs, hd, k2, k3⟩ := h5
    have hgd := (rel.lg d _ h3).1
    have rk : RpK K (S.un i).G (S.un i).α s.M.length kvs l := RpK.of k2 k3
    have hlab : (S.un i).lab d = none := by show (if S.lab d = some (.slot i) then none else S.lab d) = none; rw [if_pos h3]
    refine ⟨d, _, hd, trivial, fun od => ?_⟩
    have rl : Rel K ct H0 (S.un i) ⟨s.env.set i none, s.M⟩ σ (upd H d (.frz od (.dK kvs))) := rel.setN.updU hlab hgd
    refine ei_lcAt (K := K) (ct := ct) (H0 := H0) (W := W0) (S := S.un i) (s := ⟨s.env.set i none, s.M⟩) (mi := fun s => .ok ⟨dIt kd l, none⟩ s) (fun R q => dI_go h1 upd_same (q (S.un i) _ _ .refl rl (wk_d (s := ⟨s.env.set i none, s.M⟩) upd_same hlab rk))) (by have := hg none; rw [ect] at this; exact this) hjs (by have := hc none; rw [ect] at this; exact this) (by have := he none; rw [ect] at this; exact this) ?_
    have hne : ∀ x s', mLc ws (fun s => .ok ⟨dIt kd l, none⟩ s) f c e ⟨s.env.set i none, s.M⟩ ≠ .er x s' := fun _ _ => mLc_er
    generalize mLc ws (fun s => .ok ⟨dIt kd l, none⟩ s) f c e ⟨s.env.set i none, s.M⟩ = R at p hne
    cases R with
    | no => exact p
    | er x s' => exact absurd rfl (hne _ _)
    | ok a s' =>
      intro S' b H' st rel' it
      obtain ⟨hd', hl'⟩ := st.fr d _ upd_same hlab
      have hg' : S'.G d = none := by
        cases q : S'.G d with
        | none => rfl
        | some o =>
          rcases st.gn d o q with z | z | ⟨z, z'⟩
          · have z : S.G d = some o := z; rw [hgd] at z; cases z
          · rw [upd_same] at z; cases z
          · rw [hlab] at z'; cases z'
      have rk' := rk.step' st.g st.al st.le
      have r2 := (rel'.updU (o := .dK kvs) hl' hg').setOw (i := i) (c := .dK l) h2 hl' hg' rfl ⟨kvs, upd_same, rk'.keys, rk'.vals⟩
      rw [set_self h1] at r2
      have hneq : ∀ {a : Addr}, S.lab a = none → a ≠ d := fun {a} ha z => by subst z; rw [h3] at ha; cases ha
      refine ⟨hd', p (S'.cl i d) b _ ⟨st.g, st.le, st.al, fun a o ha la => ?_, fun a o ga => ?_, fun a ha => ?_⟩ r2 ?_⟩
      · have lu : (S.un i).lab a = none := by show (if S.lab a = some (.slot i) then none else S.lab a) = none; rw [la]; rfl
        obtain ⟨z1, z2⟩ := st.fr a o (by rw [upd_ne (hneq la)]; exact ha) lu
        refine ⟨by rw [upd_ne (hneq la)]; exact z1, ?_⟩
        show (if a = d then some (Lab.slot i) else if S'.lab a = some (.slot i) then none else S'.lab a) = none
        rw [if_neg (hneq la), z2]; rfl
      · rcases st.gn a o ga with z | z | ⟨z, z'⟩
        · exact .inl z
        · exact .inr (.inl (upd_none.mp z).2)
        · exact .inr (.inr ⟨z, un_of z'⟩)
      · exact (upd_none.mp (st.dom a (upd_none.mp ha).2)).2
      · cases a with
        | val x => exact it
        | slot j => exact it
        | new c' =>
          obtain ⟨pp, rfl, i1, i2, i3, i4, i5⟩ := it
          obtain ⟨i0, i1⟩ := upd_none.mp i1
          refine ⟨pp, rfl, i1, ?_, i3, i4, i5.mono (H' := upd H' d (.dK kvs)) (fun _ _ e => e) (fun _ _ => rfl) (Nat.le_refl _) (fun o e => by rw [upd_ne i0]; exact e)⟩
          show (if pp = d then some (Lab.slot i) else if S'.lab pp = some (.slot i) then none else S'.lab pp) = none
          rw [if_neg i0, i2]; rfl
  · exact False.elim p
end
end Y

namespace Y
open PySem L2 Z
/-! ## min of a list of pairs of numbers -/
abbrev pyP (p : Int × Int) : PyData := .tuple [.int p.1, .int p.2]
def ltP (x y : Int × Int) : Bool := decide (x.1 < y.1 ∨ (x.1 = y.1 ∧ x.2 < y.2))
def minP (p : Int × Int) (ps : List (Int × Int)) : Int × Int := ps.foldl (fun a y => if ltP y a = true then y else a) p
theorem dlt (x y : Int × Int) : PySem.W.dataLt (pyP x) (pyP y) = ltP x y := by
  obtain ⟨a, b⟩ := x
  obtain ⟨c, d⟩ := y
  show (decide ((1 : Int) < 1) || (!decide ((1 : Int) < 1) && (decide (a < c) || (!decide (c < a) && (decide ((1 : Int) < 1) || (!decide ((1 : Int) < 1) && (decide (b < d) || (!decide (d < b) && (decide ((0 : Int) < 0) || (!decide ((0 : Int) < 0) && false)))))))))) = decide (a < c ∨ (a = c ∧ b < d))
  by_cases h1 : a < c
  · simp [h1]
  · by_cases h2 : c < a
    · have : ¬ a = c := by omega
      simp [h1, h2, this]
    · have : a = c := by omega
      subst this
      by_cases h3 : b < d
      · simp [h3]
      · simp [h3]
theorem minD_P : ∀ (ps : List (Int × Int)) (p : Int × Int), PySem.W.minD (pyP p) (ps.map pyP) = pyP (minP p ps)
  | [], p => rfl
  | y :: ps, p => by
    show PySem.W.minD (if PySem.W.dataLt (pyP y) (pyP p) = true then pyP y else pyP p) (ps.map pyP) = pyP (minP (if ltP y p = true then y else p) ps)
    rw [dlt]
    by_cases h : ltP y p = true
    · rw [if_pos h, if_pos h]; exact minD_P ps y
    · rw [if_neg h, if_neg h]; exact minD_P ps p
def rMinP (K : PySem.W.Frag) : List V → Hp → VK → Prop := fun xs H Q => ∃ (q : Addr) (us : List V) (p : Int × Int) (ps : List (Int × Int)), xs = [.ref q] ∧ SqL K H q us ∧ DpAll K H us ((p :: ps).map pyP) ∧ ∀ (i : Nat) (u : V), us[i]? = some u → (p :: ps)[i]? = some (minP p ps) → Q u H
section
variable {X : Cx}
theorem depth_P : ∀ ps : List (Int × Int), PyData.depthAll (ps.map pyP) ≤ 5
  | [] => by show 0 ≤ 5; omega
  | p :: ps => by
    have := depth_P ps
    show max (PyData.depth (pyP p)) (PyData.depthAll (ps.map pyP)) ≤ 5
    have h : PyData.depth (pyP p) ≤ 5 := by show max (0 + 0) (max 0 0) + 1 ≤ 5 <;> decide
    omega
theorem cr_minP' (hc : X.calm = true) (hu : X.A.units + 70 < cLine) : CallR X (.builtin "min") (rMinP X.K) := by
  intro pins s σ H vs us Q I r h
  obtain ⟨a, xs, p, ps, rfl, hs, hd, q⟩ := h
  obtain ⟨its, rv, hl, hz⟩ := I.list hs
  rw [Vals.ref1 r]
  obtain ⟨as, hr⟩ := Dp.readsAll I _ _ _ hd rv
  have hr' : ReadsAll s.heap its.toArray.toList (pyP p :: ps.map pyP) as := by simpa using hr
  refine PySem.W.min_list_data (I.ok.hd hc) hl.isList hr' ⟨fun x hx y hy => ?_, fun x hx => ?_⟩ ?_ fun i v h' tk bs hv hR hk => ?_
  · obtain ⟨p1, _, rfl⟩ := List.mem_map.mp (show x ∈ (p :: ps).map pyP from hx)
    obtain ⟨p2, _, rfl⟩ := List.mem_map.mp (show y ∈ (p :: ps).map pyP from hy)
    rfl
  · obtain ⟨p1, _, rfl⟩ := List.mem_map.mp (show x ∈ (p :: ps).map pyP from hx)
    intro z; cases z
  · have := depth_P (p :: ps)
    have e : PyData.depthAll (pyP p :: ps.map pyP) = PyData.depthAll ((p :: ps).map pyP) := rfl
    omega
  · rw [minD_P] at hR
    have hv' : its[i]? = some v := by simpa using hv
    obtain ⟨bs', r1, hlt, _, _⟩ := PySem.W.readsAll_at hr i v hv'
    have e := (Reads.unique (PyProof.Rows.Reads.keeps hk r1) _ _ hR).1
    have hlt' : i < (p :: ps).length := by rw [List.length_map] at hlt; exact hlt
    have ep : ((p :: ps).map pyP).getD i .none = pyP (p :: ps)[i] := by
      rw [List.getD_eq_getElem?_getD, List.getElem?_map, List.getElem?_eq_getElem hlt']; rfl
    rw [ep] at e
    have e2 : (p :: ps)[i] = minP p ps := by
      injection e with e
      injection e with e3 e4
      injection e3 with e3
      injection e4 with e4 _
      injection e4 with e4
      exact Prod.ext e3 e4
    have hxl : i < xs.length := by have := rv.length; have := (List.getElem?_eq_some_iff.mp hv').1; omega
    obtain ⟨u, hu1, hu2⟩ := rv.get (List.getElem?_eq_getElem hxl)
    rw [hv'] at hu1; cases hu1
    exact ⟨_, H, I.kept (t' := tk) hk, hu2, q i _ (List.getElem?_eq_getElem hxl) (by rw [List.getElem?_eq_getElem hlt', e2])⟩
theorem cr_minP {K : PySem.W.Frag} (hK : X.K = K) (hc : X.calm = true) (hu : X.A.units + 70 < cLine) : CallR X (.builtin "min") (rMinP K) := by subst hK; exact cr_minP' hc hu
end
section
variable {K : PySem.W.Frag} {ct : Ct} {H0 : Hp} {W : WX}
def tP (p : Int × Int) : D := .tup [.int p.1, .int p.2]
def pairsD : List D → Option (List (Int × Int))
  | [] => some []
  | .tup [.int a, .int b] :: l => (pairsD l).map ((a, b) :: ·)
  | _ :: _ => none
theorem pairsD_eq : ∀ {l : List D} {ps : List (Int × Int)}, pairsD l = some ps → l = ps.map tP
  | [], _, e => by cases e; rfl
  | d :: l, ps, e => by
    unfold pairsD at e
    split at e
    · rename_i h; cases h
    · rename_i a b l' h
      cases h
      obtain ⟨qs, q, rfl⟩ := Option.map_eq_some_iff.mp e
      rw [pairsD_eq q]; rfl
    · cases e
theorem pairsD_map : ∀ ps : List (Int × Int), pairsD (ps.map tP) = some ps
  | [] => rfl
  | p :: ps => by show (pairsD (ps.map tP)).map (p :: ·) = _; rw [pairsD_map ps]; rfl
def fMinP (s : Stt) (as : List AI) : Ro AI := match as with
  | [a] => match (viewL s a).bind pairsD with
    | some (p :: ps) => .ok (.val (tP (minP p ps))) s
    | _ => .no
  | _ => .no
theorem pyL_P : ∀ ps : List (Int × Int), D.pyL (ps.map tP) = some (ps.map pyP)
  | [] => rfl
  | p :: ps => by show ((tP p).py).bind (fun x => (D.pyL (ps.map tP)).map (x :: ·)) = _; rw [pyL_P ps]; rfl
theorem jb_minP : JB K ct H0 (rMinP K) fMinP := fun W S s σ H Hs vs as Q rel ia p => by
  unfold fMinP at p
  split at p
  · rename_i a
    obtain ⟨v, rfl, i⟩ := as1 ia
    split at p
    · rename_i p0 ps e
      obtain ⟨l, e1, e2⟩ := Option.bind_eq_some_iff.mp e
      obtain ⟨q, us, rfl, k1, k2⟩ := viewL_ok rel i e1
      have el := pairsD_eq e2
      subst el
      have kH := uDpL (rpL_dp (RpL.mono rel.sub (fun _ _ => rfl) (Nat.le_refl _) k2) (pyL_P (p0 :: ps)))
      refine ⟨q, us, p0, ps, rfl, k1, kH, fun j u hu hj => ?_⟩
      obtain ⟨d, hd1, hd2⟩ := k2.get' hu
      rw [List.getElem?_map, hj] at hd1
      cases hd1
      exact p.val rel hd2
    · exact False.elim p
  · exact False.elim p
variable {s : Stt} {X : Exn → Stt → Prop} {QA : AI → Stt → Prop}
theorem w_minP {a : AI} {p : Int × Int} {ps : List (Int × Int)} (e : viewL s a = some ((p :: ps).map tP)) (h : QA (.val (tP (minP p ps))) s) : Wo QA X (fMinP s [a]) := by
  unfold fMinP; simp only []; rw [e, Option.bind_some, pairsD_map]; exact h
/-! ## dict(list of pairs) -/
def rDictY (K : PySem.W.Frag) : List V → Hp → VK → Prop := fun xs H Q => ∃ (a : Addr) (ps : List Addr) (kvs : List (Key × V)), xs = [.ref a] ∧ SqL K H a (ps.map V.ref) ∧ Paired (fun p kv => SqT K H p [kV kv.1, kv.2]) ps kvs ∧ ∀ p, H p = none → Q (.ref p) (upd H p (.dK (mergeK [] kvs)))
theorem call_dictY {X : Cx} {K : PySem.W.Frag} (hK : X.K = K) (hc : X.calm = true) : CallR X (.type "dict") (rDictY K) := by subst hK; exact call_dictP hc
def kPair : D → Option (Key × D)
  | .tup [.int i, x] => some (.inl i, x)
  | .tup [.str i, x] => some (.inr i, x)
  | _ => none
def kPairs : List D → Option (List (Key × D))
  | [] => some []
  | d :: l => (kPair d).bind fun p => (kPairs l).map (p :: ·)
def mgD (l : List (Key × D)) : List (Key × D) := l.foldl (fun a p => pu a p.1 p.2) []
def fDict (s : Stt) (as : List AI) : Ro AI := match as with
  | [a] => match (viewL s a).bind kPairs with
    | some l => .ok (.new (.dK (mgD l))) s
    | none => .no
  | _ => .no
theorem kPairs_ok {G : Hp} {α : Nat → Addr} {n : Nat} {H : Hp} (hs : ∀ a vs, G a = some (.tup vs) → H a = some (.tup vs)) : ∀ {ds : List D} {vs : List V} {l : List (Key × D)}, RpL K G α n vs ds → kPairs ds = some l → ∃ ps kvs, vs = ps.map V.ref ∧ Paired (fun p (kv : Key × V) => SqT K H p [kV kv.1, kv.2]) ps kvs ∧ RpK K G α n kvs l
  | [], _, _, .nil, e => by cases e; exact ⟨[], [], rfl, .nil, .nil⟩
  | d :: ds, _, l, .cons h r, e => by
    obtain ⟨kd, e1, e2⟩ := Option.bind_eq_some_iff.mp (show ((kPair d).bind fun p => (kPairs ds).map (p :: ·)) = some l from e)
    obtain ⟨l', e3, rfl⟩ := Option.map_eq_some_iff.mp e2
    obtain ⟨ps, kvs, rfl, h2, h3⟩ := kPairs_ok hs r e3
    unfold kPair at e1
    split at e1
    · rename_i i x
      cases e1
      cases h with
      | tup g1 g2 =>
        cases g2 with
        | cons g3 g4 => cases g4 with
          | cons g5 g6 =>
            cases g6
            cases rp_int g3
            exact ⟨_ :: ps, (.inl i, _) :: kvs, rfl, .cons (.of (hs _ _ g1)) h2, .cons g5 h3⟩
    · rename_i i x
      cases e1
      cases h with
      | tup g1 g2 =>
        cases g2 with
        | cons g3 g4 => cases g4 with
          | cons g5 g6 =>
            cases g6
            cases rp_str g3
            exact ⟨_ :: ps, (.inr i, _) :: kvs, rfl, .cons (.of (hs _ _ g1)) h2, .cons g5 h3⟩
    · cases e1
theorem mg_ok {G : Hp} {α : Nat → Addr} {n : Nat} : ∀ {kvs : List (Key × V)} {l : List (Key × D)} {acc : List (Key × V)} {a : List (Key × D)}, RpK K G α n kvs l → RpK K G α n acc a → RpK K G α n (mergeK acc kvs) (l.foldl (fun a p => pu a p.1 p.2) a)
  | _, _, _, _, .nil, h => h
  | _, _, acc, a, .cons (k := k) (v := v) (d := d) (kvs := kvs) (l := l) x r, h => by
    show RpK K G α n (mergeK (putK acc k v) kvs) (l.foldl (fun a p => pu a p.1 p.2) (pu a k d))
    exact mg_ok r (h.put x)
theorem jb_dict : JB K ct H0 (rDictY K) fDict := fun W S s σ H Hs vs as Q rel ia p => by
  unfold fDict at p
  split at p
  · rename_i a
    obtain ⟨v, rfl, i⟩ := as1 ia
    split at p
    · rename_i l e
      obtain ⟨l0, e1, e2⟩ := Option.bind_eq_some_iff.mp e
      obtain ⟨q, us, rfl, k1, k2⟩ := viewL_ok rel i e1
      obtain ⟨ps, kvs, rfl, h2, h3⟩ := kPairs_ok (H := H) (fun a vs h => uP' (rel.sub _ _ h)) k2 e2
      refine ⟨q, ps, kvs, rfl, k1, h2, fun r hr => ?_⟩
      have h4 := mg_ok h3 (.nil (κ := Key))
      exact p.newC rel hr rfl ⟨_, upd_same, h4.keys, h4.vals⟩
    · exact False.elim p
  · exact False.elim p
theorem w_dict {a : AI} {l : List D} {kl : List (Key × D)} (e : viewL s a = some l) (e2 : kPairs l = some kl) (h : QA (.new (.dK (mgD kl))) s) : Wo QA X (fDict s [a]) := by
  unfold fDict; simp only []; rw [e, Option.bind_some, e2]; exact h
/-! ## steps with dicts -/
theorem w_dnew (h : QA (.new (.dK [])) s) : Wo QA X (mDNew s) := h
theorem w_lcD1 {kd : KD} {i : Nat} {ws : List Nat} {g : Tg} {c : Mo Bool} {e : Mo AI} {l : List (Key × D)} (en : entAt s i = some (.fz (.dK l))) (h : ∃ l2 s2, lcN ws g c (mV e) none (dIt kd l) [] (wipeS ws s) = .ok l2 s2 ∧ QA (.new (.lst l2)) ⟨Y.rest s.env s2.env ws, s2.M⟩) : Wo QA X (mLcD kd i ws g c e s) := by
  unfold mLcD; rw [en]
  exact w_lc (show Wo _ X (Ro.ok (⟨dIt kd l, none⟩ : Im) s) from h)
theorem w_lcD2 {kd : KD} {i : Nat} {ws : List Nat} {g : Tg} {c : Mo Bool} {e : Mo AI} {l : List (Key × D)} (en : entAt s i = some (.ow (.dK l))) (h : ∃ l2 s2, lcN ws g c (mV e) none (dIt kd l) [] (wipeS ws ⟨s.env.set i none, s.M⟩) = .ok l2 s2 ∧ QA (.new (.lst l2)) ⟨(Y.rest (s.env.set i none) s2.env ws).set i (some (.ow (.dK l))), s2.M⟩) : Wo QA X (mLcD kd i ws g c e s) := by
  unfold mLcD; rw [en]
  refine w_bind (w_lc (QA := fun a s1 => Wo QA X (.ok a ⟨s1.env.set i (some (.ow (.dK l))), s1.M⟩)) (show Wo _ X (Ro.ok (⟨dIt kd l, none⟩ : Im) _) from h))
theorem w_pop {m1 m2 : Mo AI} (h : Wo (fun a s1 => (∃ l, viewD s1 a = some l) ∧ Wo (fun i s2 => ∃ l k d, getC s2 a = some (.dK l) ∧ keyOf i = some k ∧ vl l k = some d ∧ QA (.val d) (setC s2 a (.dK (dr l k)))) X (mV m2 s1)) X (m1 s)) : Wo QA X (mPop m1 m2 s) := w_bind (w_mono h fun a s1 ⟨⟨l, e⟩, h⟩ => by
  show Wo QA X (match viewD s1 a with | some _ => _ | none => _)
  rw [e]
  exact w_bind (w_mono h fun i s2 ⟨l, k, d, e1, e2, e3, h⟩ => by
    show Wo QA X (fPop s2 a i)
    unfold fPop
    rw [e1]; simp only []; rw [e2, Option.bind_some, e3]; exact h))
theorem so_setK {N : Stt → Prop} {a : AI} {i d : D} {l : List (Key × D)} {k : Key} (e : getC s a = some (.dK l)) (e2 : keyOf i = some k) (hz : l.length < sizeLine) (h : N (setC s a (.dK (pu l k d)))) : So N (setIt a i d s) := by
  unfold setIt; rw [e]; simp only []; rw [e2, Option.bind_some, if_pos hz]; exact h
theorem w_inD {b : AI} {i : Int} {l : List (Key × D)} (e : viewD s b = some l) (h : QA (.val (.bl (vl l (.inl i)).isSome)) s) : Wo QA X (fIn s (.val (.int i)) b) := by
  unfold fIn
  have : inOf s (.val (.int i)) b = some (vl l (.inl i)).isSome := by
    unfold inOf
    split
    · rename_i h1 h2; cases h2
    · rw [e]
  rw [this]; exact h
theorem w_ninD {b : AI} {i : Int} {l : List (Key × D)} (e : viewD s b = some l) (h : QA (.val (.bl (!(vl l (.inl i)).isSome))) s) : Wo QA X (fNin s (.val (.int i)) b) := by
  unfold fNin
  have : inOf s (.val (.int i)) b = some (vl l (.inl i)).isSome := by
    unfold inOf
    split
    · rename_i h1 h2; cases h2
    · rw [e]
  rw [this]; exact h
/-- a comprehension with a test -/
theorem w_lcFil {ws : List Nat} {g : Tg} {c : Mo Bool} {e : Mo D} {xs : List D} {P : List D → Stt → Prop} (p : D → Bool) (f : D → D) (hz : xs.length ≤ sizeLine) (h : ∀ x ∈ xs, So (fun s1 => Wo (fun b s2 => b = p x ∧ if b = true then Wo (fun d s3 => d = f x ∧ wipeS ws s3 = s) Xf (e s2) else wipeS ws s2 = s) Xf (c s1)) (g x s)) (k : P ((xs.filter p).map f) s) : ∃ l s2, lcN ws g c e none xs [] s = .ok l s2 ∧ P l s2 := by
  refine ⟨(xs.filter p).map f, s, ?_, k⟩
  have gen : ∀ (ys acc : List D), acc.length + ys.length ≤ sizeLine → (∀ y ∈ ys, y ∈ xs) → lcN ws g c e none ys acc s = .ok (acc ++ (ys.filter p).map f) s := by
    intro ys
    induction ys with
    | nil => intro acc _ _; unfold lcN; rw [if_pos chk_none]; simp
    | cons y ys ih =>
      intro acc hl hy
      have hh := h y (hy y (List.mem_cons_self ..))
      unfold lcN
      rw [if_pos chk_none]
      cases q : g y s with
      | none => rw [q] at hh; exact False.elim hh
      | some s1 =>
        rw [q] at hh
        simp only []
        have hh : Wo _ Xf (c s1) := hh
        cases q2 : c s1 with
        | no => rw [q2] at hh; exact False.elim hh
        | er _ _ => rw [q2] at hh; exact False.elim hh
        | ok b s2 =>
          rw [q2] at hh
          obtain ⟨hb, hh⟩ := hh
          simp only []
          rw [List.length_cons] at hl
          by_cases hbt : b = true
          · rw [if_pos hbt] at hh ⊢
            cases q3 : e s2 with
            | no => rw [q3] at hh; exact False.elim hh
            | er _ _ => rw [q3] at hh; exact False.elim hh
            | ok d s3 =>
              rw [q3] at hh
              obtain ⟨rfl, hw⟩ := hh
              simp only []
              rw [if_pos (by omega), hw, ih _ (by rw [List.length_append, List.length_singleton]; omega) (fun z hz => hy z (List.mem_cons_of_mem _ hz))]
              rw [List.filter_cons, if_pos (by rw [← hb]; exact hbt), List.map_cons, List.append_assoc]; rfl
          · rw [if_neg hbt] at hh ⊢
            rw [hh, ih _ (by omega) (fun z hz => hy z (List.mem_cons_of_mem _ hz))]
            rw [List.filter_cons, if_neg (by rw [← hb]; exact hbt)]
  simpa using gen xs [] (by simpa using hz) (fun _ h => h)
end
section
variable {K : PySem.W.Frag} {ct : Ct} {H0 : Hp} {W : WX}
/-! ## a, b = x, y -/
def mPar (i j : Nat) (m : Mo (List D)) : Ms := fun s => (m s).toS fun ds s1 => match ds with
  | [x, y] => .nx ⟨(s1.env.set i (some (.fz x))).set j (some (.fz y)), s1.M⟩
  | _ => .no
theorem sv_par {i j : Nat} {ta : TA} {m : Mo (List D)} (h : EvL K ct H0 W ta m) : Sv K ct H0 W (tPar i j ta) (mPar i j m) := fun S s σ H Dn rel p =>
  h S s σ H _ rel (PstS.bind p fun S1 s1 H1 vs ds st1 rel1 i1 p1 => by
    split at p1
    · rename_i x y
      obtain ⟨u, v, rfl, r1, r2⟩ := RpL.two i1
      refine ⟨u, v, rfl, p1 ((S1.un i).un j) _ H1 ((st1.trans .un).trans .un) ?_⟩
      exact (rel1.setFz (i := i) r1).setFz (i := j) r2
    · exact False.elim p1)
variable {s : Stt} {N : Stt → Prop} {O : Rs → Prop}
theorem w_par {i j : Nat} {m : Mo (List D)} (h : Wo (fun ds s1 => ∃ x y, ds = [x, y] ∧ N ⟨(s1.env.set i (some (.fz x))).set j (some (.fz y)), s1.M⟩) (fun x s => O (.er x s)) (m s)) : Ws N O (mPar i j m s) := w_toS (w_mono h fun ds s1 ⟨x, y, e, h⟩ => by subst e; exact h)
end
end Y

namespace Y
open PySem L2 Z
/-! # own objects: tracked; what is stored in a field is tracked, too, where it is new -/
def putD (f : Str) (d : D) : List (Str × D) → List (Str × D)
  | [] => [(f, d)]
  | (g, x) :: r => if g = f then (g, d) :: r else (g, x) :: putD f d r
section
variable {K : PySem.W.Frag} {ct : Ct} {H0 : Hp} {W : WX} {S : Sh} {s : Stt} {σ : St} {H : Hp}
theorem put_ok {G : Hp} {α : Nat → Addr} {n : Nat} {f : Str} {v : V} {d : D} (h : Rp K G α n v d) : ∀ {fvs : List (Str × V)} {fs : List (Str × D)}, fvs.map Prod.fst = fs.map Prod.fst → RpL K G α n (fvs.map Prod.snd) (fs.map Prod.snd) → (putF f v fvs).map Prod.fst = (putD f d fs).map Prod.fst ∧ RpL K G α n ((putF f v fvs).map Prod.snd) ((putD f d fs).map Prod.snd)
  | [], [], _, _ => ⟨rfl, .cons h .nil⟩
  | [], _ :: _, e, _ => by simp at e
  | _ :: _, [], e, _ => by simp at e
  | (g, x) :: fvs, (g', y) :: fs, e, r => by
    rw [List.map_cons, List.map_cons] at e r
    obtain ⟨e1, e2⟩ := List.cons.inj e
    have e1 : g = g' := e1
    subst e1
    cases r with
    | cons r1 r2 =>
      unfold putF putD
      by_cases q : g = f
      · rw [if_pos q, if_pos q]
        exact ⟨by rw [List.map_cons, List.map_cons, e2], .cons h r2⟩
      · rw [if_neg q, if_neg q]
        obtain ⟨k1, k2⟩ := put_ok h e2 r2
        exact ⟨by rw [List.map_cons, List.map_cons, k1], .cons r1 k2⟩
theorem lookup_no {f : Str} : ∀ {fvs : List (Str × V)} {fs : List (Str × D)}, fvs.map Prod.fst = fs.map Prod.fst → fs.lookup f = none → fvs.lookup f = none
  | [], [], _, _ => rfl
  | [], _ :: _, e, _ => by simp at e
  | _ :: _, [], e, _ => by simp at e
  | (g, x) :: fvs, (g', y) :: fs, e, h => by
    rw [List.map_cons, List.map_cons] at e
    obtain ⟨e1, e2⟩ := List.cons.inj e
    have e1 : g = g' := e1
    subst e1
    rw [List.lookup_cons] at h ⊢
    cases q : (f == g) with
    | true => rw [q] at h; cases h
    | false => rw [q] at h; exact lookup_no e2 h
/-- to a value; a new thing is tracked -/
def toK : AI → Mo D := fun a s => match a with
  | .new c => .ok (.cid s.M.length) ⟨s.env, s.M ++ [c]⟩
  | a => toV a s
def mK (m : Mo AI) : Mo D := fun s => (m s).bind toK
theorem ek_of {t : TE} {m : Mo AI} (h : Ei K ct H0 W t m) : Ev K ct H0 W t (mK m) := fun S s σ H Q rel p => by
  unfold mK at p
  cases q : m s with
  | no => rw [q] at p; exact h S s σ H Q rel (by rw [q]; exact p)
  | er x s' => rw [q] at p; exact h S s σ H Q rel (by rw [q]; exact p)
  | ok a s' =>
    rw [q] at p
    cases a with
    | val d => exact ev_of h S s σ H Q rel (by unfold mV; rw [q]; exact p)
    | slot i => exact ev_of h S s σ H Q rel (by unfold mV; rw [q]; exact p)
    | new c =>
      refine h S s σ H Q rel (by
        rw [q]
        intro S' v H' st rel' it
        obtain ⟨pp, rfl, h1, h2, h3, h4, h5⟩ := it
        have rt := rel'.track h2 h3 h5
        have hlen : (s'.M ++ [c]).length = s'.M.length + 1 := by simp
        have p : ∀ S'' b H'', Stp S s.M.length H S'' (s'.M ++ [c]).length H'' → Rel K ct H0 S'' ⟨s'.env, s'.M ++ [c]⟩ σ H'' → RV K H S'' ⟨s'.env, s'.M ++ [c]⟩ σ H'' b (.cid s'.M.length) → Q b H'' := p
        refine p (S'.tr s'.M.length pp) _ H' (by rw [hlen]; exact st.track h1) rt ?_
        show Rp K _ _ (s'.M ++ [c]).length _ _
        rw [hlen]; exact tr_cid)
theorem okc1 {P : Nat → Prop} {i : Nat} (h : P i) : ∀ c, (c == i) = true → P c := fun c e => by rw [beq_iff_eq.mp e]; exact h
theorem okc2 {P : Nat → Prop} {i j : Nat} (h : P i) (h2 : P j) : ∀ c, (c == i || c == j) = true → P c := fun c e => by
  rw [Bool.or_eq_true] at e
  rcases e with e | e
  · rw [beq_iff_eq.mp e]; exact h
  · rw [beq_iff_eq.mp e]; exact h2
/-! ## fields -/
def objAt (s : Stt) (a : AI) : Option (Nat × Nat × List (Str × D)) := match a with
  | .val (.cid k) => match s.M[k]? with
    | some (.obj c fs) => some (k, c, fs)
    | _ => none
  | _ => none
theorem objAt_ok {Hs : Hp} {v : V} {a : AI} {k c : Nat} {fs : List (Str × D)} (rel : Rel K ct H0 S s σ H) (i : ItOk K ct Hs S s σ H v a) (e : objAt s a = some (k, c, fs)) : a = .val (.cid k) ∧ s.M[k]? = some (.obj c fs) ∧ v = .ref (S.α k) ∧ ∃ dx fvs, H (S.α k) = some (.ins (ct c) dx fvs) ∧ fvs.map Prod.fst = fs.map Prod.fst ∧ RpL K S.G S.α s.M.length (fvs.map Prod.snd) (fs.map Prod.snd) := by
  unfold objAt at e
  split at e
  · rename_i k'
    split at e
    · rename_i c' fs' em
      cases e
      have i : Rp K S.G S.α s.M.length v (.cid k) := i
      cases i
      exact ⟨rfl, em, rfl, (rel.ids k _ em).2⟩
    · cases e
  · cases e
def mFld (ok : Nat → Bool) (f : Str) (m : Mo AI) : Mo AI := fun s => (m s).bind fun a s1 => match objAt s1 a with
  | some (_, c, fs) => if ok c = true then (match fs.lookup f with | some d => .ok (.val d) s1 | none => .no) else .no
  | none => .no
theorem ei_fld {ok : Nat → Bool} {f : Str} {ta : TE} {m : Mo AI} (hc : ∀ c, ok c = true → Cls K (ct c) ∧ NoAttr K (ct c) f) (h : Ei K ct H0 W ta m) : Ei K ct H0 W (tFld K ta f) (mFld ok f m) := fun S s σ H Q rel p =>
  h S s σ H _ rel (Pst.bind bI p fun S1 s1 H1 x a st1 rel1 i1 p1 => by
    split at p1
    · rename_i k c fs e
      split at p1
      · rename_i hk
        split at p1
        · rename_i d el
          obtain ⟨rfl, em, rfl, dx, fvs, h1, h2, h3⟩ := objAt_ok rel1 i1 e
          obtain ⟨v, l1, l2⟩ := lookup_rp h2 h3 el
          exact ⟨_, _, dx, fvs, v, rfl, h1, (hc c hk).1, (hc c hk).2, l1, p1 S1 v H1 .refl rel1 l2⟩
        · exact False.elim p1
      · exact False.elim p1
    · exact False.elim p1)
def mFldS (ok : Nat → Bool) (f : Str) (mo mv : Mo AI) : Ms := fun s => (mK mv s).toS fun d s1 => (mo s1).toS fun a s2 => match objAt s2 a with
  | some (k, c, fs) => if ok c = true ∧ fs.length < 1000 then .nx ⟨s2.env, s2.M.set k (.obj c (putD f d fs))⟩ else .no
  | none => .no
theorem sv_fld {ok : Nat → Bool} {f : Str} {ta tv : TE} {mo mv : Mo AI} (hc : ∀ c, ok c = true → Cls K (ct c) ∧ NoAttr K (ct c) f) (ho : Ei K ct H0 W ta mo) (hv : Ei K ct H0 W tv mv) : Sv K ct H0 W (sFld K ta tv f) (mFldS ok f mo mv) := fun S s σ H Dn rel p =>
  ek_of hv S s σ H _ rel (PstS.bind p fun S1 s1 H1 y d st1 rel1 r1 p1 => ho S1 s1 σ H1 _ rel1 (PstS.bind (PstS.from p1 st1) fun S2 s2 H2 x a st2 rel2 i2 p2 => by
    split at p2
    · rename_i k c fs e
      split at p2
      · rename_i hk
        obtain ⟨rfl, em, rfl, dx, fvs, h1, h2, h3⟩ := objAt_ok rel2 i2 e
        have r2 : Rp K S2.G S2.α s2.M.length y d := Rp.step st2 r1
        obtain ⟨k1, k2⟩ := put_ok (f := f) r2 h2 h3
        have hlen : fvs.length = fs.length := by have := congrArg List.length h2; simpa using this
        refine ⟨_, _, dx, fvs, rfl, h1, (hc c hk.1).1, (hc c hk.1).2, by rw [hlen]; exact hk.2, ?_⟩
        obtain ⟨pp, ep, _, g⟩ := mut_ok (a := .val (.cid k)) (c := .obj c fs) rel2 i2 em
        have ep : S2.α k = pp := by injection ep
        subst ep
        obtain ⟨g1, g2⟩ := g (.ins (ct c) dx (putF f y fvs)) (.obj c (putD f d fs)) (fun z => z) ⟨dx, _, upd_same, k1, k2⟩
        exact p2 S2 σ _ (st2.trans g2) g1
      · exact False.elim p2
    · exact False.elim p2))
/-- o.f += e -/
def mFldA (ok : Nat → Bool) (f : Str) (g : Int → Int → Int) (mo mv : Mo AI) : Ms := fun s => (mo s).toS fun a s1 => match objAt s1 a with
  | some (k, c, fs) => if ok c = true then (match fs.lookup f with
    | some (.int i) => (mv s1).toS fun b s2 => match b with
      | .val (.int j) => match s2.M[k]? with
        | some (.obj c' fs') => if c' = c ∧ fs'.length < 1000 then .nx ⟨s2.env, s2.M.set k (.obj c (putD f (.int (g i j)) fs'))⟩ else .no
        | _ => .no
      | _ => .no
    | _ => .no) else .no
  | none => .no
theorem sv_fldA {ok : Nat → Bool} {f : Str} {g : Int → Int → Int} {ta tv : TE} {mo mv : Mo AI} (hc : ∀ c, ok c = true → Cls K (ct c) ∧ NoAttr K (ct c) f) (ho : Ei K ct H0 W ta mo) (hv : Ei K ct H0 W tv mv) : Sv K ct H0 W (sFldAug K ta tv (rI0 fun i j => .int (g i j)) f) (mFldA ok f g mo mv) := fun S s σ H Dn rel p =>
  ho S s σ H _ rel (PstS.bind p fun S1 s1 H1 x a st1 rel1 i1 p1 => by
    split at p1
    · rename_i k c fs e
      split at p1
      · rename_i hk
        split at p1
        · rename_i i el
          obtain ⟨rfl, em, rfl, dx, fvs, h1, h2, h3⟩ := objAt_ok rel1 i1 e
          obtain ⟨v, l1, l2⟩ := lookup_rp h2 h3 el
          cases rp_int l2
          refine ⟨_, _, dx, fvs, _, rfl, h1, (hc c hk).1, (hc c hk).2, l1, hv S1 s1 σ H1 _ rel1 (PstS.bind (PstS.from p1 st1) fun S2 s2 H2 y b st2 rel2 i2 p2 => ?_)⟩
          split at p2
          · rename_i j
            cases rp_int i2
            split at p2
            · rename_i c' fs' em'
              split at p2
              · rename_i hk'
                obtain ⟨rfl, hz⟩ := hk'
                have ea : S2.α k = S1.α k := st2.al k (List.getElem?_eq_some_iff.mp em).1
                have i2' : ItOk K ct H2 S2 s2 σ H2 (.ref (S2.α k)) (.val (.cid k)) := Rp.cid (List.getElem?_eq_some_iff.mp em').1
                obtain ⟨dx', fvs', h1', h2', h3'⟩ := (rel2.ids k _ em').2
                have hlen : fvs'.length = fs'.length := by have := congrArg List.length h2'; simpa using this
                obtain ⟨k1, k2⟩ := put_ok (f := f) (Rp.int (K := K) (G := S2.G) (α := S2.α) (n := s2.M.length) (g i j)) h2' h3'
                refine ⟨i, j, rfl, rfl, dx', fvs', by rw [← ea]; exact h1', by rw [hlen]; exact hz, ?_⟩
                rw [← ea]
                obtain ⟨pp, ep, _, gg⟩ := mut_ok (a := .val (.cid k)) (c := .obj c' fs') rel2 i2' em'
                have ep : S2.α k = pp := by injection ep
                subst ep
                obtain ⟨g1, g2⟩ := gg (.ins (ct c') dx' (putF f (.int (g i j)) fvs')) (.obj c' (putD f (.int (g i j)) fs')) (fun z => z) ⟨dx', _, upd_same, k1, k2⟩
                exact p2 S2 σ _ (st2.trans g2) g1
              · exact False.elim p2
            · exact False.elim p2
          · exact False.elim p2
        · exact False.elim p1
      · exact False.elim p1
    · exact False.elim p1)
/-! ## methods -/
def mMethN (c : Nat) (nm : Str) (f : Mf) (mo : Mo AI) (ma : Mo (List D)) : Mo AI := fun s => (mo s).bind fun a s1 => match objAt s1 a with
  | some (k, c', fs) => if c' = c ∧ fs.lookup nm = none then ((ma s1).bind fun ds s2 => match f (.cid k :: ds) s2.M with
    | .ok a M' => .ok a ⟨s2.env, M'⟩
    | _ => .no) else .no
  | none => .no
def mMethS (c : Nat) (nm : Str) (f : Mf) (mo : Mo AI) (ma : Mo (List D)) : Mo AI := fun s => (mo s).bind fun a s1 => match objAt s1 a with
  | some (k, c', fs) => if c' = c ∧ fs.lookup nm = none then ((ma s1).bind fun ds s2 => match f (.cid k :: ds) s2.M with
    | .ok a M' => .ok a ⟨s2.env, M'⟩
    | .er x M' => .er x ⟨s2.env, M'⟩
    | .no => .no) else .no
  | none => .no
theorem self_rp {S1 S2 : Sh} {s1 s2 : Stt} {H1 H2 : Hp} {k : Nat} {c : Cn} (em : s1.M[k]? = some c) (st : Stp S1 s1.M.length H1 S2 s2.M.length H2) : Rp K S2.G S2.α s2.M.length (.ref (S1.α k)) (.cid k) := by
  have hk := (List.getElem?_eq_some_iff.mp em).1
  have e := st.al k hk
  rw [← e]
  exact .cid (Nat.lt_of_lt_of_le hk st.le)
theorem ei_methN {c : Nat} {nm : Str} {f : Mf} {E : XK} {ta : TE} {t : TA} {mo : Mo AI} {ma : Mo (List D)} (ho : Ei K ct H0 W ta mo) (ha : EvL K ct H0 W t ma) : Ei K ct H0 W (tMeth (ct c) nm (spM K ct f) [] E ta t) (mMethN c nm f mo ma) := fun S s σ H Q rel p =>
  ho S s σ H _ rel (Pst.bind bI p fun S1 s1 H1 x a st1 rel1 i1 p1 => by
    split at p1
    · rename_i k c' fs e
      split at p1
      · rename_i hk
        obtain ⟨rfl, hno⟩ := hk
        obtain ⟨rfl, em, rfl, dx, fvs, h1, h2, h3⟩ := objAt_ok rel1 i1 e
        refine ⟨_, dx, fvs, rfl, h1, lookup_no h2 hno, ha S1 s1 σ H1 _ rel1 (Pst.bind bI p1 fun S2 s2 H2 vs ds st2 rel2 i2 p2 => ?_)⟩
        refine ⟨S2.hide, s2.M, .cid k :: ds, rel2.hide, (.cons (show Rp K S2.G S2.α s2.M.length _ _ from self_rp em st2) (by rw [List.append_nil]; exact i2)), ?_⟩
        generalize hf : f (.cid k :: ds) s2.M = r at p2
        cases r with
        | no => exact False.elim p2
        | er x M' => exact False.elim p2
        | ok a M' => exact fpst_of rel2 (fun x M' e => by cases e) (fun a' M'' e S' v H' st rl it => by cases e; exact p2 S' v H' st rl it) (fun e => by cases e)
      · exact False.elim p1
    · exact False.elim p1)
theorem ei_methS {c : Nat} {nm : Str} {f : Mf} {ta : TE} {t : TA} {mo : Mo AI} {ma : Mo (List D)} (ho : Ei K ct H0 W ta mo) (ha : EvL K ct H0 W t ma) : Ei K ct H0 W (Z.tMethS (ct c) nm (spM K ct f) (WE W) ta t) (mMethS c nm f mo ma) := fun S s σ H Q rel p =>
  ho S s σ H _ rel (Pst.bind bI p fun S1 s1 H1 x a st1 rel1 i1 p1 => by
    split at p1
    · rename_i k c' fs e
      split at p1
      · rename_i hk
        obtain ⟨rfl, hno⟩ := hk
        obtain ⟨rfl, em, rfl, dx, fvs, h1, h2, h3⟩ := objAt_ok rel1 i1 e
        refine ⟨_, dx, fvs, rfl, h1, lookup_no h2 hno, ha S1 s1 σ H1 _ rel1 (Pst.bind bI p1 fun S2 s2 H2 vs ds st2 rel2 i2 p2 => ?_)⟩
        refine ⟨S2.hide, s2.M, .cid k :: ds, rel2.hide, (.cons (show Rp K S2.G S2.α s2.M.length _ _ from self_rp em st2) (by rw [List.append_nil]; exact i2)), ?_⟩
        generalize hf : f (.cid k :: ds) s2.M = r at p2
        cases r with
        | no => exact False.elim p2
        | er x M' => exact fpst_of rel2 (fun x' M'' e S' H' dd st rl xo => by cases e; exact p2 S' H' dd st rl xo) (fun a' M'' e => by cases e) (fun e => by cases e)
        | ok a M' => exact fpst_of rel2 (fun x M' e => by cases e) (fun a' M'' e S' v H' st rl it => by cases e; exact p2 S' v H' st rl it) (fun e => by cases e)
      · exact False.elim p1
    · exact False.elim p1)
/-! ## C(..) -/
def mMakeN (c : Nat) (f : Mf) (dds : List D) (ma : Mo (List D)) : Mo AI := fun s => (ma s).bind fun ds s1 => match f (.cid s1.M.length :: (ds ++ dds)) (s1.M ++ [.obj c []]) with
  | .ok (.val .non) M' => .ok (.val (.cid s1.M.length)) ⟨s1.env, M'⟩
  | _ => .no
def mMakeS (c : Nat) (f : Mf) (dds : List D) (ma : Mo (List D)) : Mo AI := fun s => (ma s).bind fun ds s1 => match f (.cid s1.M.length :: (ds ++ dds)) (s1.M ++ [.obj c []]) with
  | .ok (.val .non) M' => .ok (.val (.cid s1.M.length)) ⟨s1.env, M'⟩
  | .er x M' => .er x ⟨s1.env, M'⟩
  | _ => .no
/-- what stands for data whatever the heap -/
def CRL (K : PySem.W.Frag) (vs : List V) (ds : List D) : Prop := ∀ G α n, RpL K G α n vs ds
theorem crl_nil : CRL K [] [] := fun _ _ _ => .nil
theorem crl_cons {v : V} {d : D} {vs : List V} {ds : List D} (h : CR K v d) (r : CRL K vs ds) : CRL K (v :: vs) (d :: ds) := fun G α n => .cons (h G α n) (r G α n)
theorem make_ok {c : Nat} {f : Mf} {E : XK} {Q : VK} {vs dvs : List V} {ds dds : List D} {x dx : Addr} (rel : Rel K ct H0 S s σ H) (hv : RpL K S.G S.α s.M.length vs ds) (hd : CRL K dvs dds) (hx : H x = none) (hdx : H dx = none) (hne : dx ≠ x)
    (hE : ∀ y M', f (.cid s.M.length :: (ds ++ dds)) (s.M ++ [.obj c []]) = .er y M' → ∀ S' H' dd, Stp S s.M.length H S' M'.length H' → Rel K ct H0 S' ⟨s.env, M'⟩ σ H' → XOk K S' M'.length H' y dd → E (.ref (ct y.cls)) dd H')
    (hQ : ∀ M', f (.cid s.M.length :: (ds ++ dds)) (s.M ++ [.obj c []]) = .ok (.val .non) M' → ∀ S' H', Stp S s.M.length H S' M'.length H' → Rel K ct H0 S' ⟨s.env, M'⟩ σ H' → Rp K S'.G S'.α M'.length (.ref x) (.cid s.M.length) → Q (.ref x) H')
    (hn : (∃ M', f (.cid s.M.length :: (ds ++ dds)) (s.M ++ [.obj c []]) = .ok (.val .non) M') ∨ ∃ y M', f (.cid s.M.length :: (ds ++ dds)) (s.M ++ [.obj c []]) = .er y M') :
    spM K ct f (.ref x :: (vs ++ dvs)) (upd (upd H dx (.own x)) x (.ins (ct c) dx [])) (fun v H2 => v = .non ∧ Q (.ref x) H2) E := by
  have hx' : (upd H dx (.own x)) x = none := by rw [upd_ne (Ne.symm hne)]; exact hx
  have relA : Rel K ct H0 S s σ (upd (upd H dx (.own x)) x (.ins (ct c) dx [])) := (rel.new (o := .own x) hdx).new hx'
  have stA : Stp S s.M.length H S s.M.length (upd (upd H dx (.own x)) x (.ins (ct c) dx [])) := (Stp.new rel hdx).trans (Stp.new (rel.new (o := .own x) hdx) hx')
  have hl : S.lab x = none := rel.labN hx
  have hg : S.G x = none := rel.gN hx
  have relT := relA.track (p := x) (c := .obj c []) hl hg ⟨dx, [], upd_same, rfl, .nil⟩
  have hlen : (s.M ++ [Cn.obj c []]).length = s.M.length + 1 := by simp
  have stT : Stp S s.M.length H (S.tr s.M.length x) (s.M.length + 1) (upd (upd H dx (.own x)) x (.ins (ct c) dx [])) := stA.track hx
  have hv' : RpL K (S.tr s.M.length x).G (S.tr s.M.length x).α (s.M.length + 1) vs ds := hv.mono stT.g stT.al stT.le
  refine ⟨(S.tr s.M.length x).hide, s.M ++ [.obj c []], .cid s.M.length :: (ds ++ dds), relT.hide, ?_, ?_⟩
  · rw [hlen]
    exact .cons (show Rp K (S.tr s.M.length x).G (S.tr s.M.length x).α (s.M.length + 1) _ _ from tr_cid) (RpL.append (show RpL K (S.tr s.M.length x).G (S.tr s.M.length x).α (s.M.length + 1) _ _ from hv') (hd _ _ _))
  · have stT' : Stp S s.M.length H (S.tr s.M.length x) (s.M ++ [Cn.obj c []]).length (upd (upd H dx (.own x)) x (.ins (ct c) dx [])) := by rw [hlen]; exact stT
    refine fpst_of relT (fun y M' e S' H' dd st rl xo => hE y M' e S' H' dd (stT'.trans st) rl xo) (fun a M' e S' v H' st rl it => ?_) (fun e => ?_)
    · rcases hn with ⟨M2, e2⟩ | ⟨y, M2, e2⟩
      · rw [e2] at e
        injection e with ea em
        subst ea em
        have it : Rp K S'.G S'.α M2.length v .non := it
        cases it
        refine ⟨rfl, hQ M2 e2 S' H' (stT'.trans st) rl ?_⟩
        have hlt : s.M.length < (s.M ++ [Cn.obj c []]).length := by rw [hlen]; omega
        have ea := st.al s.M.length hlt
        have eb : (S.tr s.M.length x).α s.M.length = x := if_pos rfl
        rw [eb] at ea
        have r : Rp K S'.G S'.α M2.length (.ref (S'.α s.M.length)) (.cid s.M.length) := .cid (Nat.lt_of_lt_of_le hlt st.le)
        rw [ea] at r; exact r
      · rw [e2] at e; cases e
    · rcases hn with ⟨M2, e2⟩ | ⟨y, M2, e2⟩
      · rw [e2] at e; cases e
      · rw [e2] at e; cases e
theorem ei_makeN {c : Nat} {f : Mf} {E : XK} {t : TA} {ma : Mo (List D)} {dvs : List V} {dds : List D} (hd : CRL K dvs dds) (ha : EvL K ct H0 W t ma) : Ei K ct H0 W (tMake (ct c) (spM K ct f) dvs E t) (mMakeN c f dds ma) := fun S s σ H Q rel p =>
  ha S s σ H _ rel (Pst.bind bI p fun S1 s1 H1 vs ds st1 rel1 i1 p1 => by
    intro x dx hx hdx hne
    split at p1
    · rename_i M' e
      exact make_ok rel1 i1 hd hx hdx hne (fun y M'' e' => by rw [e] at e'; cases e') (fun M'' e' S' H' st rl r => by rw [e] at e'; cases e'; exact p1 S' _ H' st rl r) (.inl ⟨M', e⟩)
    · exact False.elim p1)
theorem ei_makeS {c : Nat} {f : Mf} {t : TA} {ma : Mo (List D)} {dvs : List V} {dds : List D} (hd : CRL K dvs dds) (ha : EvL K ct H0 W t ma) : Ei K ct H0 W (Z.tMakeS (ct c) (spM K ct f) dvs (WE W) t) (mMakeS c f dds ma) := fun S s σ H Q rel p =>
  ha S s σ H _ rel (Pst.bind bI p fun S1 s1 H1 vs ds st1 rel1 i1 p1 => by
    intro x dx hx hdx hne
    split at p1
    · rename_i M' e
      exact make_ok rel1 i1 hd hx hdx hne (fun y M'' e' => by rw [e] at e'; cases e') (fun M'' e' S' H' st rl r => by rw [e] at e'; cases e'; exact p1 S' _ H' st rl r) (.inl ⟨M', e⟩)
    · rename_i y M' e
      exact make_ok rel1 i1 hd hx hdx hne (fun y' M'' e' S' H' dd st rl xo => by rw [e] at e'; cases e'; exact p1 S' H' dd st rl xo) (fun M'' e' => by rw [e] at e'; cases e') (.inr ⟨y, M', e⟩)
    · exact False.elim p1)
end
/-! ## steps -/
section
variable {s : Stt} {X : Exn → Stt → Prop} {QA : AI → Stt → Prop} {N : Stt → Prop} {O : Rs → Prop} {QD : D → Stt → Prop} {m mo mv : Mo AI} {ma : Mo (List D)}
theorem w_K (h : Wo (fun a s1 => Wo QD X (toK a s1)) X (m s)) : Wo QD X (mK m s) := w_bind h
theorem w_toKN {c : Cn} (h : QD (.cid s.M.length) ⟨s.env, s.M ++ [c]⟩) : Wo QD X (toK (.new c) s) := h
theorem w_toKV {d : D} (h : QD d s) : Wo QD X (toK (.val d) s) := h
theorem w_toKS {i : Nat} (h : Wo QD X (toV (.slot i) s)) : Wo QD X (toK (.slot i) s) := h
theorem w_fld {ok : Nat → Bool} {f : Str} (h : Wo (fun a s1 => ∃ k c fs d, objAt s1 a = some (k, c, fs) ∧ ok c = true ∧ fs.lookup f = some d ∧ QA (.val d) s1) X (m s)) : Wo QA X (mFld ok f m s) := w_bind (w_mono h fun a s1 ⟨k, c, fs, d, e, h1, h2, h⟩ => by
  show Wo QA X (match objAt s1 a with | some (_, c, fs) => _ | none => _)
  rw [e]; simp only []; rw [if_pos h1, h2]; exact h)
theorem w_fldS {ok : Nat → Bool} {f : Str} (h : Wo (fun d s1 => Wo (fun a s2 => ∃ k c fs, objAt s2 a = some (k, c, fs) ∧ (ok c = true ∧ fs.length < 1000) ∧ N ⟨s2.env, s2.M.set k (.obj c (putD f d fs))⟩) (fun x s => O (.er x s)) (mo s1)) (fun x s => O (.er x s)) (mK mv s)) : Ws N O (mFldS ok f mo mv s) :=
  w_toS (w_mono h fun d s1 h => w_toS (w_mono h fun a s2 ⟨k, c, fs, e, h1, h⟩ => by
    show Ws N O (match objAt s2 a with | some (k, c, fs) => _ | none => _)
    rw [e]; simp only []; rw [if_pos h1]; exact h))
theorem w_fldA {ok : Nat → Bool} {f : Str} {g : Int → Int → Int} (h : Wo (fun a s1 => ∃ k c fs i, objAt s1 a = some (k, c, fs) ∧ ok c = true ∧ fs.lookup f = some (.int i) ∧ Wo (fun b s2 => ∃ j fs', b = .val (.int j) ∧ s2.M[k]? = some (.obj c fs') ∧ fs'.length < 1000 ∧ N ⟨s2.env, s2.M.set k (.obj c (putD f (.int (g i j)) fs'))⟩) (fun x s => O (.er x s)) (mv s1)) (fun x s => O (.er x s)) (mo s)) : Ws N O (mFldA ok f g mo mv s) :=
  w_toS (w_mono h fun a s1 ⟨k, c, fs, i, e, h1, h2, h⟩ => by
    show Ws N O (match objAt s1 a with | some (k, c, fs) => _ | none => _)
    rw [e]; simp only []; rw [if_pos h1, h2]
    exact w_toS (w_mono h fun b s2 ⟨j, fs', e1, e2, h3, h⟩ => by
      subst e1
      show Ws N O (match s2.M[k]? with | some (.obj c' fs') => _ | _ => _)
      rw [e2]; simp only []; rw [if_pos ⟨trivial, h3⟩]; exact h))
theorem w_methN {c : Nat} {nm : Str} {f : Mf} (h : Wo (fun a s1 => ∃ k fs, objAt s1 a = some (k, c, fs) ∧ fs.lookup nm = none ∧ Wo (fun ds s2 => Fo (fun a M' => QA a ⟨s2.env, M'⟩) (f (.cid k :: ds) s2.M)) X (ma s1)) X (mo s)) : Wo QA X (mMethN c nm f mo ma s) := w_bind (w_mono h fun a s1 ⟨k, fs, e, h1, h⟩ => by
  show Wo QA X (match objAt s1 a with | some (k, c', fs) => _ | none => _)
  rw [e]; simp only []; rw [if_pos ⟨trivial, h1⟩]
  exact w_bind (w_mono h fun ds s2 h => by
    show Wo QA X (match f (.cid k :: ds) s2.M with | .ok a M' => _ | _ => _)
    cases q : f (.cid k :: ds) s2.M <;> rw [q] at h <;> exact h))
theorem w_methS {c : Nat} {nm : Str} {f : Mf} (h : Wo (fun a s1 => ∃ k fs, objAt s1 a = some (k, c, fs) ∧ fs.lookup nm = none ∧ Wo (fun ds s2 => Fx (fun a M' => QA a ⟨s2.env, M'⟩) (fun x M' => X x ⟨s2.env, M'⟩) (f (.cid k :: ds) s2.M)) X (ma s1)) X (mo s)) : Wo QA X (mMethS c nm f mo ma s) := w_bind (w_mono h fun a s1 ⟨k, fs, e, h1, h⟩ => by
  show Wo QA X (match objAt s1 a with | some (k, c', fs) => _ | none => _)
  rw [e]; simp only []; rw [if_pos ⟨trivial, h1⟩]
  exact w_bind (w_mono h fun ds s2 h => by
    show Wo QA X (match f (.cid k :: ds) s2.M with | .ok a M' => _ | .er x M' => _ | .no => _)
    cases q : f (.cid k :: ds) s2.M <;> rw [q] at h <;> exact h))
theorem w_makeN {c : Nat} {f : Mf} {dds : List D} (h : Wo (fun ds s1 => Fo (fun a M' => a = .val .non ∧ QA (.val (.cid s1.M.length)) ⟨s1.env, M'⟩) (f (.cid s1.M.length :: (ds ++ dds)) (s1.M ++ [.obj c []]))) X (ma s)) : Wo QA X (mMakeN c f dds ma s) := w_bind (w_mono h fun ds s1 h => by
  show Wo QA X (match f (.cid s1.M.length :: (ds ++ dds)) (s1.M ++ [.obj c []]) with | .ok (.val .non) M' => _ | _ => _)
  cases q : f (.cid s1.M.length :: (ds ++ dds)) (s1.M ++ [.obj c []]) with
  | no => rw [q] at h; exact h
  | er x M' => rw [q] at h; exact h
  | ok a M' => rw [q] at h; obtain ⟨rfl, h⟩ := h; exact h)
theorem w_makeS {c : Nat} {f : Mf} {dds : List D} (h : Wo (fun ds s1 => Fx (fun a M' => a = .val .non ∧ QA (.val (.cid s1.M.length)) ⟨s1.env, M'⟩) (fun x M' => X x ⟨s1.env, M'⟩) (f (.cid s1.M.length :: (ds ++ dds)) (s1.M ++ [.obj c []]))) X (ma s)) : Wo QA X (mMakeS c f dds ma s) := w_bind (w_mono h fun ds s1 h => by
  show Wo QA X (match f (.cid s1.M.length :: (ds ++ dds)) (s1.M ++ [.obj c []]) with | .ok (.val .non) M' => _ | .er x M' => _ | _ => _)
  cases q : f (.cid s1.M.length :: (ds ++ dds)) (s1.M ++ [.obj c []]) with
  | no => rw [q] at h; exact h
  | er x M' => rw [q] at h; exact h
  | ok a M' => rw [q] at h; obtain ⟨rfl, h⟩ := h; exact h)
theorem objAt_of {k c : Nat} {fs : List (Str × D)} (h : s.M[k]? = some (.obj c fs)) : objAt s (.val (.cid k)) = some (k, c, fs) := by unfold objAt; simp only []; rw [h]
end
end Y

namespace Y
open PySem L2 Z
open PyProof.Rows
section
variable {X : Cx}
/-! ## d != {} -/
def rNeD0 : R2 := fun x y H Q => ∃ a b kvs, x = .ref a ∧ y = .ref b ∧ Rd H a (.dK kvs) ∧ Rd H b (.dK []) ∧ Q (.bl (!(kvs.length == 0))) H
theorem op_neD0 (hu : X.A.units < cLine) : OpR X (compareOp .NotEq) rNeD0 := by
  intro pins s σ H x y v u Q I rx ry h
  obtain ⟨a, b, kvs, rfl, rfl, ea, eb, q⟩ := h
  obtain rfl : v = Value.ref a := rx
  obtain rfl : u = Value.ref b := ry
  obtain ⟨_, ya, va, ra, da⟩ := dk_rd I.hok ea
  obtain ⟨_, yb, vb, rb, db⟩ := dk_rd I.hok eb
  have hb : vb.length = 0 := rb.length.symm
  refine PySem.W.keq_ne (knd := mixKind X.prog X.w) (r := true) ya yb da db hu (fun hl => ?_) (fin_bl I q (by rw [hb, ra.length]; simp))
  have : va = [] := List.length_eq_zero_iff.mp (by omega)
  subst this
  exact .nil
/-! ## sorted(d.values()) -/
def tSortVals (td : TE) : TE := fun σ H Q => td σ H fun x H1 => ∃ (a : Addr) (kvs : List (Key × V)) (is : List Int), x = V.ref a ∧ Rd H1 a (.dK kvs) ∧ kvs.map (·.2) = is.map V.int ∧ ∀ p, H1 p = none → Q (.ref p) (upd H1 p (.lst ((is.mergeSort fun i j => decide (i ≤ j)).map V.int)))
theorem each_ints : ∀ {us : List Value} {is : List Int}, us.length = is.length → (∀ j v, us[j]? = some v → ∃ t, v = Value.int (is.getD j 0) t) → PySem.W.EachIs (fun v (i : Int) => ∃ t, v = Value.int i t) us is
  | [], [], _, _ => .nil
  | u :: us, i :: is, hl, h => .cons (h 0 u rfl) (each_ints (by simpa using hl) fun j v e => h (j + 1) v e)
  | [], _ :: _, hl, _ => by simp at hl
  | _ :: _, [], hl, _ => by simp at hl
theorem vals_ints : ∀ {us : List Value} {is : List Int}, PySem.W.EachIs (fun v (i : Int) => ∃ t, v = Value.int i t) us is → Vals (is.map V.int) us
  | _, _, .nil => .nil
  | _, _, .cons h r => .cons h (vals_ints r)
variable {o : Expr} {p pos apos mpos : Pos} {td : TE}
theorem pe_sortVals (hc : X.calm = true) (hu : X.A.units + 70 < cLine) (hg : Gl X "sorted") (hm : X.mg "sorted" = none) (hd : PE X o td) (hbase : attributeBase o "values" X.env (eval o X.env) = eval o X.env := by rfl) (hline : (apos.endLine == mpos.line) = true := by rfl)
    (hse : starEach [Expr.Call (.Attribute o "values" apos) [] [] mpos] X.env = [(false, eval (Expr.Call (.Attribute o "values" apos) [] [] mpos) X.env)] := by rfl) :
    PE X (.Call (.Name "sorted" p) [.Call (.Attribute o "values" apos) [] [] mpos] [] pos) (tSortVals td) := by
  refine ⟨fun pins s σ H Q I h => ?_⟩
  refine wpAny_Call_Name_kw (ld_blt I hg hm (u := .builtin "sorted") (by first | rfl | decide +kernel) ?_ (by first | decide +kernel | decide) (by first | decide +kernel | decide))
  rw [hse]
  refine PySem.callWith_builtin1 (wpAny_Call_method0_late hbase hline (thn (hd.run pins s σ H _ I h) fun v s1 ⟨x, H1, I1, r1, a, kvs, is, ex, ha, hv, q⟩ => ?_))
  subst ex
  obtain rfl : v = Value.ref a := r1
  obtain ⟨hz, hsys, vs, rel, dof⟩ := dk_rd I1.hok ha
  obtain ⟨ep, dat⟩ := dof.dictAt
  have dat' := dat
  obtain ⟨ob, es, ho, ex, hdat, hko, hpr, hnd⟩ := dat'
  refine ⟨"dict", "dict.values", F.plainAttrs_dict, F.slot_dict_values, F.type_dict_values, ⟨ob, ho, ex.1⟩, fun b e => ?_, Calls.callWith_builtin rfl (PySem.evalArgs_none ?_)⟩
  · cases e
    exact ⟨ob, ho, ex.2.1⟩
  refine call_meetsIn F.slot_dict_values ⟨ob, ho, ex.1⟩ F.entry_dict_values (F.args_dict_values_1 _) (meets_dict_values (mixKind X.prog X.w) a hsys) ⟨⟨vs, dof⟩, ?_⟩
  have k1 : ∀ b u, s1.heap.get? b = some u → (s1.heap.push { cls := .type "dict_values", data := .fields #[.ref a] }).get? b = some u := fun b u e => Heap.get?_push_of_some _ e
  have dat1 : (s1.heap.push { cls := .type "dict_values", data := .fields #[.ref a] }).DictAt (mixKind X.prog X.w) a vs ep := dat.keep k1
  have I2 : Inv X pins σ H1 { s1 with heap := s1.heap.push { cls := .type "dict_values", data := .fields #[.ref a] } } := I1.kept k1
  have hlv : vs.length = is.length := by
    have e1 := congrArg List.length hv
    rw [List.length_map, List.length_map] at e1
    rw [← e1]
    exact (KV.length rel).symm
  have hvz : vs.length ≤ sizeLine := by rw [← KV.length rel]; exact hz
  have hview : (s1.heap.push { cls := .type "dict_values", data := .fields #[.ref a] }).IsValuesView s1.heap.objs.size a := ⟨_, Heap.get?_push_size _ rfl, rfl, rfl⟩
  have hval : ∀ (i : Nat) (v : Value), (∃ k, vs[i]? = some (k, v)) → ∃ t, v = Value.int (is.getD i 0) t := fun i v ⟨k, hk⟩ => by
    obtain ⟨x, h1, h2⟩ := KV.at' rel hk
    have e1 : (kvs.map (·.2))[i]? = some x := by rw [List.getElem?_map, h1]; rfl
    rw [hv, List.getElem?_map] at e1
    obtain ⟨j, hj, e2⟩ := Option.map_eq_some_iff.mp e1
    subst e2
    obtain ⟨t, e3⟩ := h2
    exact ⟨t, by rw [e3, List.getD_eq_getElem?_getD, hj]; rfl⟩
  generalize hs2 : ({ s1 with heap := s1.heap.push { cls := .type "dict_values", data := .fields #[.ref a] } } : Shared) = s2 at I2 ⊢
  have hheap : s2.heap = s1.heap.push { cls := .type "dict_values", data := .fields #[.ref a] } := by rw [← hs2]
  rw [← hheap] at dat1 hview
  refine Calls.call_function_entry kind_sorted plain_sorted entry_sorted (args_sorted1 _) ?_
  unfold Builtin.«sorted»
  refine wpAny_bind (m := checkCount "sorted" 1 1 _) (wpAny_pure ?_)
  refine wpAny_bind (PySem.W.kdu_collect (A := X.A.in1) (PySem.W.kdl_values (knd := mixKind X.prog X.w) (kvs := vs) (ep := ep)) (I.ok.hd hc) ⟨hview, dat1⟩ hvz fun h' tk acc hk hacc => ?_)
  have hal : acc.toList.length = is.length := by rw [Array.length_toList, hacc.1, hlv]
  have hE := each_ints hal fun j v e => hval j v (hacc.2 j v (by rw [← Array.getElem?_toList]; exact e))
  have I3 : Inv X pins σ H1 { s2 with heap := h', toks := tk } := I2.kept hk
  refine wpAny_bind (wpAny_newList ?_ (by rw [hal, ← hlv]; exact hvz))
  have hoL : (h'.push (seqObj "list" acc.toList.toArray 0)).get? h'.objs.size = some (seqObj "list" acc.toList.toArray 0) := Heap.get?_push_size _ rfl
  show wpAny _ _ _ _ _ { s2 with heap := h'.push (seqObj "list" acc.toList.toArray 0), toks := tk }
  refine wpAny_bind (wpAny_holding (PySem.W.list_sort_data (s := { s2 with heap := h'.push (seqObj "list" acc.toList.toArray 0), toks := tk }) (bs := is) (enc := PyData.int) hoL hE ?_ ?_ ?_ (by rw [← hlv]; exact hvz) ?_ fun out hol hout => ?_))
  · exact hE.mono fun v i ⟨t, e⟩ => ⟨[], by subst e; exact (.int i t), fun h => nomatch h⟩
  · exact PySem.W.AllAlike.of fun _ _ => rfl
  · refine .inr fun d hd => ?_
    obtain ⟨i, _, rfl⟩ := List.mem_map.mp hd
    exact ⟨(fun z => nomatch z), (fun xs z => nomatch z)⟩
  · intro b hb
    show _ + 1 + 0 < cLine
    have : X.A.in1.units ≤ X.A.units + 1 := by first | exact Nat.le_refl _ | simp [Around.in1] | omega
    omega
  · obtain ⟨e', he'⟩ := PyProof.Rows.sortedHeap_at (vs := acc.toList) (out := out.toArray) hoL
    have hvo := vals_ints hout
    rw [show PySem.W.dataLe false PyData.int = fun i j => decide (i ≤ j) from PySem.W.dataLe_int (fun i => i)] at hvo
    refine wpAny_pure ⟨_, rfl, .ref h'.objs.size, upd H1 h'.objs.size (.lst ((is.mergeSort fun i j => decide (i ≤ j)).map V.int)), I3.laid (t' := tk) (fun b u e => ?_) (Nat.le_refl _)
      (show ObjOk X.prog X.w _ _ _ (.lst _) from ⟨by rw [List.length_map, List.length_mergeSort, ← hlv]; exact hvz, out, e', hvo, he'⟩), rfl, q _ (I3.hok.fresh (Nat.le_refl _))⟩
    have hb : b < h'.objs.size := Heap.lt_size e
    rw [PyProof.Rows.sortedHeap_old (Nat.ne_of_lt hb) (by rw [size_push']; exact Nat.lt_succ_of_lt hb)]
    exact Heap.get?_push_of_some _ e
end
end Y
namespace Y
open PySem L2 Z
section
variable {K : PySem.W.Frag} {ct : Ct} {H0 : Hp} {W : WX}
def fNeD0 : Stt → AI → AI → Ro AI := fun s a b => match viewD s a with
  | some l => match viewD s b with
    | some [] => .ok (.val (.bl (!(l.length == 0)))) s
    | _ => .no
  | none => .no
theorem j_neD0 : J2 K ct H0 rNeD0 fNeD0 := fun W S s σ H Hs Hs' x y a b Q rel ia ib p => by
  unfold fNeD0 at p
  split at p
  · rename_i l e
    split at p
    · rename_i e2
      obtain ⟨q, kvs, rfl, h1, h2⟩ := viewD_ok rel ia e
      obtain ⟨q', kvs', rfl, g1, g2⟩ := viewD_ok rel ib e2
      have : kvs' = [] := List.length_eq_zero_iff.mp g2.len
      subst this
      exact ⟨q, q', kvs, rfl, rfl, h1, g1, by rw [h2.len]; exact p.val rel (.bl _)⟩
    · exact False.elim p
  · exact False.elim p
def leI (i j : Int) : Bool := decide (i ≤ j)
def mSortVals (mo : Mo AI) : Mo AI := fun s => (mo s).bind fun a s1 => match (viewD s1 a).bind fun l => intsD (l.map Prod.snd) with
  | some is => .ok (.new (.lst ((is.mergeSort leI).map D.int))) s1
  | none => .no
theorem ei_sortVals {td : TE} {mo : Mo AI} (ho : Ei K ct H0 W td mo) : Ei K ct H0 W (tSortVals td) (mSortVals mo) := fun S s σ H Q rel p =>
  ho S s σ H _ rel (Pst.bind bI p fun S1 s1 H1 x a st1 rel1 i1 p1 => by
    split at p1
    · rename_i is e
      obtain ⟨l, e1, e2⟩ := Option.bind_eq_some_iff.mp e
      obtain ⟨q, kvs, rfl, h1, h2⟩ := viewD_ok rel1 i1 e1
      refine ⟨q, kvs, is, rfl, h1, ints_rp h2.vals e2, fun r hr => p1.newL rel1 hr ?_⟩
      exact rpl_ints (is.mergeSort leI)
    · exact False.elim p1)
def mMinVals (mo : Mo AI) : Mo AI := fun s => (mo s).bind fun a s1 => match a with
  | .val (.cid k) => match s1.M[k]? with
    | some (.dK l) => match intsD (l.map Prod.snd) with
      | some (i :: is) => .ok (.val (.int (is.foldl min i))) s1
      | _ => .no
    | _ => .no
  | _ => .no
theorem foldl_min : ∀ (is : List Int) (i m : Int), (m ∈ i :: is ∧ ∀ j ∈ i :: is, m ≤ j) → m = is.foldl min i
  | [], i, m, ⟨h1, h2⟩ => by simpa using h1
  | j :: is, i, m, ⟨h1, h2⟩ => by
    refine foldl_min is (min i j) m ⟨?_, fun k hk => ?_⟩
    · have a := h2 i (by simp)
      have b := h2 j (by simp)
      rcases List.mem_cons.mp h1 with rfl | h1
      · exact List.mem_cons.mpr (.inl (by omega))
      · rcases List.mem_cons.mp h1 with rfl | h1
        · exact List.mem_cons.mpr (.inl (by omega))
        · exact List.mem_cons.mpr (.inr h1)
    · rcases List.mem_cons.mp hk with rfl | hk
      · have a := h2 i (by simp)
        have b := h2 j (by simp)
        omega
      · exact h2 k (by simp [hk])
theorem ei_minVals {td : TE} {mo : Mo AI} (ho : Ei K ct H0 W td mo) : Ei K ct H0 W (tMinVals td) (mMinVals mo) := fun S s σ H Q rel p =>
  ho S s σ H _ rel (Pst.bind bI p fun S1 s1 H1 x a st1 rel1 i1 p1 => by
    split at p1
    · rename_i k
      split at p1
      · rename_i l e
        split at p1
        · rename_i i is e2
          have i1' : Rp K S1.G S1.α s1.M.length x (.cid k) := i1
          cases i1'
          obtain ⟨vs, h1, h3, h2⟩ := (rel1.ids k _ e).2
          refine ⟨_, vs, i :: is, rfl, h1, ints_rp h2 e2, (by simp), fun m hm hj => ?_⟩
          rw [foldl_min is i m ⟨hm, hj⟩]
          exact p1.val rel1 (.int _)
        · exact False.elim p1
      · exact False.elim p1
    · exact False.elim p1)
/-! ## a, b = f(borrowed) -/
def mAsgTB (n : Nat) (g : Tgs) (f : Mf) (m : Mo (List AI)) : Ms := fun s => (m s).toS fun as s1 => match snap s1 as with
  | some ds => if D.noIdL ds = true then (match f ds [] with
    | .ok (.val d) _ => (match tupOf d with
      | some l => if l.length = n ∧ l.all D.scal = true then (match g l s1 with | some s2 => .nx s2 | none => .no) else .no
      | none => .no)
    | _ => .no) else .no
  | none => .no
theorem sv_asgTB {js : List Nat} {n : Nat} {gs : TGs} {g : Tgs} {f : Mf} {E : XK} {t : TA} {m : Mo (List AI)} (hg : Sgs K ct H0 js gs g) (h : EaL K ct H0 W t m) : Sv K ct H0 W (tAsg (tCallZ (spM K ct f) E t) (gTup K n gs)) (mAsgTB n g f m) := fun S s σ H Dn rel p =>
  h S s σ H _ rel (PstS.bind p fun S1 s1 H1 vs as st1 rel1 i1 p1 => by
    split at p1
    · rename_i ds e
      split at p1
      · rename_i hn
        refine ⟨⟨U ct.lk H1, S1.α, fun _ => none⟩, [], ds, ⟨fun _ _ e => e, (fun a l e => nomatch e), fun _ e => e, rfl, (fun i e q => by simp at q), (fun k c q => by simp at q)⟩, (snap_ok rel1 i1 e).noId hn, ?_⟩
        split at p1
        · rename_i d M' ef
          rw [ef]
          split at p1
          · rename_i l el
            split at p1
            · rename_i hc
              split at p1
              · rename_i s2 eg
                intro S' v H' st rel' it
                have k : ∀ a o, H1 a = some o → H' a = some o := fun a o e => (st.fr a o e rfl).1
                obtain ⟨q, us, rfl, k1, k2⟩ := viewT_ok (Hs := H') (a := .val d) (v := v) rel' it (by unfold viewT look; exact el)
                show gTup K n gs _ σ H' Dn.nx
                refine ⟨q, us, rfl, k1, by rw [k2.length]; exact hc.1, ?_⟩
                have st2 : Stp S1 s1.M.length H1 S1 s1.M.length H' := ⟨fun _ _ e => e, Nat.le_refl _, fun _ _ => rfl, fun a o e l => ⟨k a o e, l⟩, fun _ _ e => .inl e, st.dom⟩
                exact hg S1 s1 σ H' us l s2 _ (rel1.grow k) (RpL.scal k2 hc.2) eg fun S2 σ2 st3 rel2 _ _ _ => p1 S2 σ2 H' ((st1.trans st2).trans st3) rel2
              · exact False.elim p1
            · exact False.elim p1
          · exact False.elim p1
        · exact False.elim p1
      · exact False.elim p1
    · exact False.elim p1)
/-! ## steps -/
variable {s : Stt} {QA : AI → Stt → Prop} {X : Exn → Stt → Prop} {N : Stt → Prop} {O : Rs → Prop}
theorem w_neD0 {a b : AI} {l : List (Key × D)} (e : viewD s a = some l) (e2 : viewD s b = some []) (h : QA (.val (.bl (!(l.length == 0)))) s) : Wo QA X (fNeD0 s a b) := by
  unfold fNeD0; rw [e]; simp only []; rw [e2]; exact h
theorem w_sortVals {m : Mo AI} (h : Wo (fun a s1 => ∃ l is, viewD s1 a = some l ∧ intsD (l.map Prod.snd) = some is ∧ QA (.new (.lst ((is.mergeSort leI).map D.int))) s1) X (m s)) : Wo QA X (mSortVals m s) := w_bind (w_mono h fun a s1 ⟨l, is, e1, e2, h⟩ => by
  show Wo QA X (match (viewD s1 a).bind fun l => intsD (l.map Prod.snd) with | some is => _ | none => _)
  rw [e1, Option.bind_some, e2]; exact h)
theorem w_minVals {m : Mo AI} (h : Wo (fun a s1 => ∃ k l i is, a = .val (.cid k) ∧ s1.M[k]? = some (.dK l) ∧ intsD (l.map Prod.snd) = some (i :: is) ∧ QA (.val (.int (is.foldl min i))) s1) X (m s)) : Wo QA X (mMinVals m s) := w_bind (w_mono h fun a s1 ⟨k, l, i, is, e1, e2, e3, h⟩ => by
  subst e1
  show Wo QA X (match s1.M[k]? with | some (.dK l) => _ | _ => _)
  rw [e2]; simp only []; rw [e3]; exact h)
theorem w_asgTB {n : Nat} {g : Tgs} {f : Mf} {m : Mo (List AI)} (h : Wo (fun as s1 => ∃ ds d M' l s2, snap s1 as = some ds ∧ D.noIdL ds = true ∧ f ds [] = .ok (.val d) M' ∧ tupOf d = some l ∧ l.length = n ∧ l.all D.scal = true ∧ g l s1 = some s2 ∧ N s2) (fun x s => O (.er x s)) (m s)) : Ws N O (mAsgTB n g f m s) := w_toS (w_mono h fun as s1 ⟨ds, d, M', l, s2, e1, e2, e3, e4, e5, e6, e7, h⟩ => by
  show Ws N O (match snap s1 as with | some ds => _ | none => _)
  rw [e1]; simp only []; rw [if_pos e2, e3]; simp only []; rw [e4]; simp only []; rw [if_pos ⟨e5, e6⟩, e7]; exact h)
theorem w_get2 {m1 m2 m3 : Mo AI} (h : Wo (fun a s1 => (∃ l, viewD s1 a = some l) ∧ Wo (fun i s2 => Wo (fun x s3 => ∃ l k, viewD s3 a = some l ∧ keyOf i = some k ∧ QA (.val ((vl l k).getD x)) s3) X (mV m3 s2)) X (mV m2 s1)) X (m1 s)) : Wo QA X (mGet2 m1 m2 m3 s) := w_bind (w_mono h fun a s1 ⟨⟨l, e⟩, h⟩ => by
  show Wo QA X (match viewD s1 a with | some _ => _ | none => _)
  rw [e]
  exact w_bind (w_mono h fun i s2 h => w_bind (w_mono h fun x s3 ⟨l', k, e1, e2, h⟩ => by
    unfold fGet; rw [e1]; simp only []; rw [e2]; exact h)))
end
theorem ocl_er {l : List ((Nat → Option Bool) × Ms)} {N : Stt → Prop} {O : Rs → Prop} {x : Exn} {s : Stt} (h : Ws N O (clauses l x s)) : Ocl l N O (.er x s) := h
theorem z_b0 {b : Bool} {A C : Prop} (h : b = false) (k : C) : if b = true then A else C := by rw [h]; exact k
theorem z_b1 {b : Bool} {A C : Prop} (h : b = true) (k : A) : if b = true then A else C := by rw [h]; exact k
theorem ws_mono {N N' : Stt → Prop} {O : Rs → Prop} {r : Rs} (h : Ws N O r) (k : ∀ s, N s → N' s) : Ws N' O r := by
  cases r with
  | nx s => exact k s h
  | _ => exact h
/-- both ways of an if meet again -/
theorem w_ifJ {p : Prop} [Decidable p] {N : Stt → Prop} {O : Rs → Prop} {x y : Rs} (I : Stt → Prop) (h1 : p → Ws I O x) (h2 : ¬ p → Ws I O y) (k : ∀ s, I s → N s) : if decide p = true then Ws N O x else Ws N O y :=
  z_if (fun h => ws_mono (h1 h) k) (fun h => ws_mono (h2 h) k)
end Y
namespace Y
open PySem L2 Z
section
variable {X : Cx}
/-! ## a new dict is walked -/
def tFrz (t : TE) : TE := fun σ H Q => t σ H fun v H1 => ∃ d u, v = .ref d ∧ H1 d = some u ∧ Mut (some u) ∧ ∀ od, Q v (upd H1 d (.frz od u))
theorem pe_frz {e : Expr} {t : TE} (h : PE X e t) : PE X e (tFrz t) := ⟨fun pins s σ H Q I q =>
  thn (h.run pins s σ H _ I q) fun v s1 ⟨x, H1, I1, r, d, u, ex, hd, mu, q⟩ => by
    obtain ⟨od, I2⟩ := I1.lock hd mu
    exact ⟨x, _, I2, r, q od⟩⟩
end
section
variable {K : PySem.W.Frag} {ct : Ct} {H0 : Hp} {W : WX}
def mWN (m : Mo AI) : Mo Im := fun s => match m s with
  | .ok (.new (.dK l)) s1 => .ok ⟨dIt .keys l, none⟩ s1
  | .er x s1 => .er x s1
  | _ => .no
theorem jw_newK {te : TE} {m : Mo AI} (h : Ei K ct H0 W te m) : Jw K ct H0 W (iKeys (tFrz te)) (mWN m) := fun S s σ H Q rel p => by
  unfold mWN at p
  refine h S s σ H _ rel ?_
  generalize m s = R at p
  split at p
  · rename_i l s1
    intro S1 v H1 st1 rel1 it
    obtain ⟨d, rfl, h1, h2, h3, h4, kvs, h5, h6, h7⟩ := it
    refine ⟨d, _, rfl, h5, trivial, fun od => ⟨d, od, rfl, .inl ⟨kvs, upd_same, ?_⟩⟩⟩
    have st2 : Stp S s.M.length H S1 s1.M.length (upd H1 d (.frz od (.dK kvs))) := ⟨st1.g, st1.le, st1.al, fun a o e l => by
      obtain ⟨k1, k2⟩ := st1.fr a o e l
      exact ⟨by rw [upd_ne (ne_of_none e h1)]; exact k1, k2⟩, st1.gn, fun a e => st1.dom a (upd_none.mp e).2⟩
    exact p S1 _ _ st2 (rel1.updU h2 h3) (wk_d (kd := .keys) upd_same h2 (RpK.of h6 h7))
  · exact p
  · exact False.elim p
variable {s : Stt} {QI : Im → Stt → Prop} {X : Exn → Stt → Prop}
theorem w_wn {m : Mo AI} (h : Wo (fun a s1 => ∃ l, a = .new (.dK l) ∧ QI ⟨dIt .keys l, none⟩ s1) X (m s)) : Wo QI X (mWN m s) := by
  unfold mWN
  cases q : m s with
  | no => rw [q] at h; exact h
  | er x s1 => rw [q] at h; exact h
  | ok a s1 => rw [q] at h; obtain ⟨l, rfl, h⟩ := h; exact h
end
end Y

/-! # more steps over mirrors -/
namespace Y
open PySem L2 Z
open PySem.W
section
variable {s : Stt} {QA : AI → Stt → Prop} {X : Exn → Stt → Prop} {N : Stt → Prop} {O : Rs → Prop}
theorem ixN_nn {n : Nat} {i : Int} (h0 : 0 ≤ i) (h1 : i < n) : ixN n i = some i.toNat := by unfold ixN; rw [if_pos h0, if_pos h1]
theorem so_setLst {a : AI} {i : Int} {d : D} {l : List D} {j : Nat} (e : getC s a = some (.lst l)) (e2 : ixN l.length i = some j) (h : N (setC s a (.lst (l.set j d)))) : So N (setIt a (.int i) d s) := by
  unfold setIt; rw [e]; simp only []; rw [e2]; exact h
theorem so_setI {a : AI} {i d : Int} {ns : List Int} (e : getC s a = some (.lst (ns.map D.int))) (h0 : 0 ≤ i) (h1 : i < ns.length) (h : N (setC s a (.lst ((ns.set i.toNat d).map D.int)))) : So N (setIt a (.int i) (.int d) s) := by
  refine so_setLst e (ixN_nn h0 (by rw [List.length_map]; exact h1)) ?_
  rw [← List.map_set]; exact h
theorem le_int (i j : Int) : dataLe false pyD (.int i) (.int j) = leI i j := by
  show (!(decide (j < i) || (!decide (i < j) && false))) = decide (i ≤ j)
  by_cases h : j < i
  · have h2 : ¬ i ≤ j := by omega
    have h3 : ¬ i < j := by omega
    simp [h, h2, h3]
  · have h2 : i ≤ j := by omega
    simp [h, h2]
theorem sort_ints (is : List Int) : (is.map D.int).mergeSort (dataLe false pyD) = (is.mergeSort leI).map D.int := (List.map_mergeSort fun i _ j _ => (le_int i j).symm).symm
theorem sortOk_ints (is : List Int) : SortOk (is.map D.int) := by
  refine ⟨fun d hd => ?_, fun d hd d' hd' => ?_, .inr fun d hd => ?_, fun d hd => ?_⟩
  · obtain ⟨i, _, rfl⟩ := List.mem_map.mp hd; rfl
  · rw [List.map_map] at hd hd'
    obtain ⟨i, _, rfl⟩ := List.mem_map.mp hd
    obtain ⟨j, _, rfl⟩ := List.mem_map.mp hd'; rfl
  · rw [List.map_map] at hd
    obtain ⟨i, _, rfl⟩ := List.mem_map.mp hd
    exact ⟨(fun z => nomatch z), (fun _ z => nomatch z)⟩
  · obtain ⟨i, _, rfl⟩ := List.mem_map.mp hd; show 0 ≤ 40; decide
theorem leI_pw (is : List Int) : (is.mergeSort leI).Pairwise (· ≤ ·) := (List.pairwise_mergeSort (le := leI) (fun a b c h1 h2 => by have h1 := of_decide_eq_true h1; have h2 := of_decide_eq_true h2; exact decide_eq_true (by omega)) (fun a b => by show (decide (a ≤ b) || decide (b ≤ a)) = true; simp; omega) is).imp fun h => of_decide_eq_true h
theorem leI_perm (is : List Int) : (is.mergeSort leI).Perm is := List.mergeSort_perm ..
def lePp (x y : Int × Int) : Bool := !ltP y x
theorem le_pair (x y : Int × Int) : dataLe false pyD (tP x) (tP y) = lePp x y := congrArg (!·) (dlt y x)
theorem sort_pairs (ps : List (Int × Int)) : (ps.map tP).mergeSort (dataLe false pyD) = (ps.mergeSort lePp).map tP := (List.map_mergeSort fun i _ j _ => (le_pair i j).symm).symm
theorem sortOk_pairs (ps : List (Int × Int)) : SortOk (ps.map tP) := by
  refine ⟨fun d hd => ?_, fun d hd d' hd' => ?_, .inl fun d hd => ?_, fun d hd => ?_⟩
  · obtain ⟨i, _, rfl⟩ := List.mem_map.mp hd; rfl
  · rw [List.map_map] at hd hd'
    obtain ⟨i, _, rfl⟩ := List.mem_map.mp hd
    obtain ⟨j, _, rfl⟩ := List.mem_map.mp hd'; rfl
  · rw [List.map_map] at hd
    obtain ⟨i, _, rfl⟩ := List.mem_map.mp hd
    exact ⟨_, _, rfl⟩
  · obtain ⟨i, _, rfl⟩ := List.mem_map.mp hd; show 1 ≤ 40; decide
theorem lePp_perm (ps : List (Int × Int)) : (ps.mergeSort lePp).Perm ps := List.mergeSort_perm ..
theorem lePp_pw (ps : List (Int × Int)) : (ps.mergeSort lePp).Pairwise (fun x y => x.1 < y.1 ∨ (x.1 = y.1 ∧ x.2 ≤ y.2)) := (List.pairwise_mergeSort (fun a b c h1 h2 => by unfold lePp ltP at *; simp at *; omega) (fun a b => by unfold lePp ltP; simp; omega) ps).imp fun h => by unfold lePp ltP at h; simp at h; omega
theorem w_tupL {a : AI} {l : List D} (e : viewL s a = some l) (h : QA (.val (.tup l)) s) : Wo QA X (fTup s [a]) := by
  unfold fTup; simp only []; rw [e]; exact h
theorem w_tupT {l : List D} (h : QA (.val (.tup l)) s) : Wo QA X (fTup s [.val (.tup l)]) := h
end
end Y

/-! # more steps over mirrors -/
namespace Y
open PySem L2 Z
open PySem.W
section
variable {s : Stt} {QA : AI → Stt → Prop} {QI : Im → Stt → Prop} {X : Exn → Stt → Prop} {N : Stt → Prop} {O : Rs → Prop}
theorem w_wz {r : Mo (List D)} (h : Wo (fun ds s1 => ∃ l l', ds = [.lst l, .lst l'] ∧ QI ⟨zipL l l', none⟩ s1) X (r s)) : Wo QI X (mWZ r s) :=
  w_bind (w_mono h fun ds s1 h => by
    obtain ⟨l, l', rfl, h⟩ := h
    exact h)
theorem w_wzI {l l' : List D} {P : List D → List D → Prop} (h : P l l') : ∃ m m', [D.lst l, D.lst l'] = [.lst m, .lst m'] ∧ P m m' := ⟨l, l', rfl, h⟩
theorem cutL_last {β : Type} (xs : List β) : cutL xs none (some (-1)) = xs.dropLast := by
  unfold cutL
  have e1 : HT.sIx xs.length 0 none = 0 := rfl
  have e2 : HT.sIx xs.length xs.length (some (-1)) = (-1 + (xs.length : Int)).toNat := by
    unfold HT.sIx
    exact if_pos (by decide)
  rw [e1, e2, List.drop_zero, Nat.sub_zero, List.dropLast_eq_take, show (-1 + (xs.length : Int)).toNat = xs.length - 1 by omega]
theorem ib_le {x : Int} {m : Nat} (h : x.natAbs < 2 ^ m) : Builtin.Int.intBits x ≤ m := by
  unfold Builtin.Int.intBits
  by_cases h0 : x = 0
  · subst h0; simp
  · rw [if_neg (by simpa using h0)]
    have := (Nat.log2_lt (by omega)).mpr h
    omega
theorem cshl_1 {j : Int} (h0 : 0 ≤ j) (h1 : j ≤ 100000) : CShl 1 j := by
  have := ib_le (x := 1) (m := 1) (by decide)
  exact ⟨by omega, by omega⟩
theorem cshl_N {x j : Int} {m : Nat} (hx : x.natAbs < 2 ^ m) (hm : m ≤ 1000000) (h0 : 0 ≤ j) (h1 : j ≤ 1000000) : CShl x j := by
  have := ib_le hx
  exact ⟨by omega, by omega⟩
theorem sh2 {x : Str} {d : PyData} (hx : PySem.PyData.strOk x = true) (hd : d = .none ∨ ∃ i, d = .int i) : SeqAt.shaped (.tuple [.str x, d]) = true := by
  unfold SeqAt.shaped
  rcases hd with rfl | ⟨i, rfl⟩
  · show ((PySem.PyData.strOk x && true) && _) = true
    rw [hx]; rfl
  · show ((PySem.PyData.strOk x && true) && _) = true
    rw [hx]; rfl
end
end Y

/-! # dicts as lists of pairs: what is found -/
namespace Y
open PySem L2 Z
open PySem.W
theorem vl_pu (l : List (Key × D)) (k : Key) (d : D) (j : Key) : vl (pu l k d) j = if j = k then some d else vl l j := by
  unfold pu
  split
  · rename_i ha
    rw [List.any_eq_true] at ha
    obtain ⟨p0, hp0, e0⟩ := ha
    have e0 := of_decide_eq_true e0
    unfold vl
    rw [List.find?_map]
    have ec : ((fun p : Key × D => decide (p.1 = j)) ∘ fun p : Key × D => if p.1 = k then (p.1, d) else p) = fun p : Key × D => decide (p.1 = j) := by
      funext p
      show decide ((if p.1 = k then (p.1, d) else p).1 = j) = _
      split <;> rfl
    rw [ec]
    by_cases hj : j = k
    · rw [if_pos hj]
      cases hf : l.find? fun p => decide (p.1 = j) with
      | none => exact absurd (decide_eq_true (e0.trans hj.symm)) (List.find?_eq_none.mp hf p0 hp0)
      | some p =>
        have this : p.1 = j := by have z := List.find?_some hf; simpa using z
        show some (if p.1 = k then (p.1, d) else p).2 = some d
        rw [if_pos (this.trans hj)]
    · rw [if_neg hj]
      cases hf : l.find? fun p => decide (p.1 = j) with
      | none => rfl
      | some p =>
        have this : p.1 = j := by have z := List.find?_some hf; simpa using z
        show some (if p.1 = k then (p.1, d) else p).2 = some p.2
        rw [if_neg (fun z => hj (this.symm.trans z))]
  · rename_i ha
    unfold vl
    rw [List.find?_append]
    by_cases hj : j = k
    · rw [if_pos hj, List.find?_eq_none.mpr fun p hp => by
        intro z
        have z := of_decide_eq_true z
        exact ha (List.any_eq_true.mpr ⟨p, hp, decide_eq_true (z.trans hj)⟩)]
      rw [Option.none_or, List.find?_cons, decide_eq_true (show ((k, d) : Key × D).1 = j from hj.symm)]; rfl
    · rw [if_neg hj]
      have : ([(k, d)].find? fun p : Key × D => decide (p.1 = j)) = none := by
        rw [List.find?_cons, decide_eq_false (show ¬ ((k, d) : Key × D).1 = j from fun z => hj z.symm)]; rfl
      rw [this, Option.or_none]
theorem pu_len (l : List (Key × D)) (k : Key) (d : D) : (pu l k d).length ≤ l.length + 1 := by
  unfold pu
  split
  · rw [List.length_map]; omega
  · rw [List.length_append]; exact Nat.le_refl _
theorem key_inl {a b : Int} : ((Sum.inl a : Key) = Sum.inl b) ↔ a = b := ⟨Sum.inl.inj, fun h => by rw [h]⟩
theorem mgD_snoc (l : List (Key × D)) (p : Key × D) : mgD (l ++ [p]) = pu (mgD l) p.1 p.2 := by unfold mgD; rw [List.foldl_append]; rfl
theorem kPairs_rng (f : Int → D) (n : Nat) : kPairs ((List.range n).map fun (i : Nat) => D.tup [.int (0 + (i : Int)), f (0 + (i : Int))]) = some ((List.range n).map fun (i : Nat) => ((Sum.inl (0 + (i : Int)) : Key), f (0 + (i : Int)))) := by
  induction (List.range n) with
  | nil => rfl
  | cons i l ih => show (kPair _).bind (fun p => (kPairs (l.map _)).map (p :: ·)) = _; rw [ih]; rfl
theorem mg_rng (f : Int → D) : ∀ n : Nat, (mgD ((List.range n).map fun (i : Nat) => ((Sum.inl (0 + (i : Int)) : Key), f (0 + (i : Int))))).length ≤ n ∧ ∀ x : Int, 0 ≤ x → x < n → vl (mgD ((List.range n).map fun (i : Nat) => ((Sum.inl (0 + (i : Int)) : Key), f (0 + (i : Int))))) (.inl x) = some (f x)
  | 0 => ⟨Nat.le_refl _, fun x h0 h1 => by omega⟩
  | n + 1 => by
    obtain ⟨h1, h2⟩ := mg_rng f n
    rw [List.range_succ, List.map_append, show ([n].map fun (i : Nat) => ((Sum.inl (0 + (i : Int)) : Key), f (0 + (i : Int)))) = [(Sum.inl (0 + (n : Int)), f (0 + (n : Int)))] from rfl, mgD_snoc]
    refine ⟨Nat.le_trans (pu_len ..) (by omega), fun x h0 hx => ?_⟩
    rw [vl_pu]
    by_cases e : x = 0 + (n : Int)
    · rw [if_pos (key_inl.mpr e), e]
    · rw [if_neg (fun z => e (key_inl.mp z)), h2 x h0 (by omega)]
end Y

/-! # lists and tuples of the program's own, xs[i] += e, list.count -/
namespace Y
open PySem L2 Z
section
variable {K : PySem.W.Frag}
/-- a list, a tuple that the program has -/
def KL (K : PySem.W.Frag) (a : Addr) (xs : List V) : Prop := ∃ (o : Obj) (its : Array Value) (n : Nat), K.lookup a = some o ∧ o.cls = .type "list" ∧ o.dict = none ∧ o.data = .seq its n ∧ its.size ≤ sizeLine ∧ Vals xs its.toList
def KT (K : PySem.W.Frag) (a : Addr) (xs : List V) : Prop := ∃ (o : Obj) (its : Array Value) (n : Nat), K.lookup a = some o ∧ o.cls = .type "tuple" ∧ o.data = .seq its n ∧ its.size ≤ sizeLine ∧ Vals xs its.toList
theorem cr_kl {a : Addr} {ns : List Int} (h : KL K a (ns.map V.int)) : CR K (.ref a) (.clst (ns.map D.int)) := fun _ _ _ => .clst (.inr h) (rpl_ints ns)
theorem cr_kt {a : Addr} {ns : List Int} (h : KT K a (ns.map V.int)) : CR K (.ref a) (.ctp (ns.map D.int)) := fun _ _ _ => .ctp (.inr h) (rpl_ints ns)
end
section
variable {X : Cx}
def rGetL (K : PySem.W.Frag) : V → V → Hp → VK → Prop := fun x y H Q => ∃ p xs i v, x = .ref p ∧ y = .int i ∧ SqL K H p xs ∧ 0 ≤ i ∧ xs[i.toNat]? = some v ∧ Q v H
theorem get_list {K : PySem.W.Frag} (hK : X.K = K) : PGet X (rGetL K) := by
  subst hK
  intro pins s σ H x y v u Q I rx ry h
  obtain ⟨p, xs, i, z, rfl, rfl, hq, h0, he, q⟩ := h
  cases rx
  obtain ⟨t, rfl⟩ := ry
  obtain ⟨its, r, pl, hz⟩ := I.list hq
  obtain ⟨w, ew, rw'⟩ := r.get he
  have hl := r.length
  have hn := line63
  have hi := (List.getElem?_eq_some_iff.mp he).1
  exact wpAny_getItem_list pl.isList h0 (by omega) (by simpa using ew) ⟨z, H, I, rw', q⟩
def rCnt (K : PySem.W.Frag) : V → List V → Hp → VK → Prop := fun x xs H Q => ∃ (a : Addr) (ns : List Int) (k : Int), x = .ref a ∧ xs = [.int k] ∧ SqL K H a (ns.map V.int) ∧ Q (.int (ns.count k : Nat)) H
theorem cnt_ok {K : PySem.W.Frag} (hK : X.K = K) : MtR X "list.count" (rCnt K) := by
  subst hK
  intro pins s σ H x xs v us Q I rx rxs h
  obtain ⟨a, ns, k, rfl, rfl, hs, q⟩ := h
  cases rx
  cases rxs with
  | cons ry rt =>
    cases rt
    obtain ⟨t, rfl⟩ := ry
    obtain ⟨its, rv, pl, hz⟩ := I.list hs
    exact PyProof.Rows.count_list_ints pl.isList rv.ints ⟨.int (ns.count k : Nat), H, I.tok _, ⟨_, rfl⟩, q⟩
end
section
variable {K : PySem.W.Frag} {ct : Ct} {H0 : Hp} {W : WX} {S : Sh} {s : Stt} {σ : St} {H : Hp}
def fCnt (s : Stt) (a : AI) (ds : List D) : Ro AI := match ds with
  | [.int k] => match (viewL s a).bind intsD with
    | some ns => .ok (.val (.int (ns.count k : Nat))) s
    | none => .no
  | _ => .no
theorem jm_cnt : JM K ct H0 (rCnt K) fCnt := fun W S s σ H Hs x a vs ds Q rel i r p => by
  unfold fCnt at p
  split at p
  · rename_i k
    split at p
    · rename_i ns e
      obtain ⟨l, e1, e2⟩ := Option.bind_eq_some_iff.mp e
      obtain ⟨q, us, rfl, k1, k2⟩ := viewL_ok rel i e1
      cases r with
      | cons r1 r2 =>
        cases r2
        cases rp_int r1
        rw [ints_rp k2 e2] at k1
        exact ⟨q, ns, k, rfl, rfl, k1, p.val rel (.int _)⟩
    · exact False.elim p
  · exact False.elim p
/-- o[i] op= e, a list of ints -/
def mAugS (f : Int → Int → Int) (mo mi mv : Mo AI) : Ms := fun s => (mo s).toS fun a s1 => (mV mi s1).toS fun i s2 => match i with
  | .int k => (match (viewL s2 a).bind fun l => l[k.toNat]? with
    | some (.int x) => if 0 ≤ k then ((mv s2).toS fun b s3 => match b with
      | .val (.int y) => match setIt a (.int k) (.int (f x y)) s3 with
        | some s4 => .nx s4
        | none => .no
      | _ => .no) else .no
    | _ => .no)
  | _ => .no
theorem sv_augS {f : Int → Int → Int} {to ti te : TE} {mo mi mv : Mo AI} (ho : Ei K ct H0 W to mo) (hi : Ei K ct H0 W ti mi) (hv : Ei K ct H0 W te mv) : Sv K ct H0 W (tAugS to ti te (rGetL K) (ipI f) rSetY) (mAugS f mo mi mv) := fun S s σ H Dn rel p =>
  ho S s σ H _ rel (PstS.bind p fun S1 s1 H1 x a st1 rel1 i1 p1 => ev_of hi S1 s1 σ H1 _ rel1 (PstS.bind (PstS.from p1 st1) fun S2 s2 H2 y i st2 rel2 i2 p2 => by
    replace p2 := PstS.from p2 st2
    split at p2
    · rename_i k
      split at p2
      · rename_i x0 e
        split at p2
        · rename_i h0
          obtain ⟨l, e1, e2⟩ := Option.bind_eq_some_iff.mp e
          obtain ⟨q, us, rfl, k1, k2⟩ := viewL_ok rel2 (i1.step st2) e1
          cases rp_int i2
          obtain ⟨v, ev, rv⟩ := k2.get e2
          cases rp_int rv
          refine ⟨q, us, k, .int x0, rfl, rfl, k1, h0, ev, hv S2 s2 σ H2 _ rel2 (PstS.bind p2 fun S3 s3 H3 z b st3 rel3 i3 p3 => ?_)⟩
          replace p3 := PstS.from p3 st3
          split at p3
          · rename_i y0
            cases rp_int i3
            split at p3
            · rename_i s4 e4
              refine ⟨x0, y0, rfl, rfl, ?_⟩
              exact setIt_ok rel3 ((i1.step st2).step st3) (.int k) (.int (f x0 y0)) e4 fun H' st rl => p3 S3 σ H' st rl
            · exact False.elim p3
          · exact False.elim p3
        · exact False.elim p2
      · exact False.elim p2
    · exact False.elim p2))
end
section
variable {s : Stt} {QA : AI → Stt → Prop} {X : Exn → Stt → Prop} {N : Stt → Prop} {O : Rs → Prop}
theorem w_cntI {a : AI} {ns : List Int} {k : Int} (e : viewL s a = some (ns.map D.int)) (h : QA (.val (.int (ns.count k : Nat))) s) : Wo QA X (fCnt s a [.int k]) := by
  unfold fCnt; simp only []; rw [e, Option.bind_some, intsD_map]; exact h
theorem w_augS {f : Int → Int → Int} {mo mi mv : Mo AI} (h : Wo (fun a s1 => Wo (fun i s2 => ∃ (k x : Int) (l : List D), i = .int k ∧ viewL s2 a = some l ∧ l[k.toNat]? = some (.int x) ∧ 0 ≤ k ∧ Wo (fun b s3 => ∃ y, b = .val (.int y) ∧ So N (setIt a (.int k) (.int (f x y)) s3)) (fun x s => O (.er x s)) (mv s2)) (fun x s => O (.er x s)) (mV mi s1)) (fun x s => O (.er x s)) (mo s)) : Ws N O (mAugS f mo mi mv s) :=
  w_toS (w_mono h fun a s1 h => w_toS (w_mono h fun i s2 h => by
    obtain ⟨k, x, l, rfl, h1, h2, h3, h⟩ := h
    show Ws N O (match (viewL s2 a).bind fun l => l[k.toNat]? with
    | some (.int x) => if 0 ≤ k then ((mv s2).toS fun b s3 => match b with
      | .val (.int y) => match setIt a (.int k) (.int (f x y)) s3 with
        | some s4 => .nx s4
        | none => .no
      | _ => .no) else .no
    | _ => .no)
    rw [h1, Option.bind_some, h2]
    show Ws N O (if 0 ≤ k then _ else _)
    rw [if_pos h3]
    refine w_toS (w_mono h fun b s3 h => ?_)
    obtain ⟨y, rfl, h⟩ := h
    show Ws N O (match setIt a (.int k) (.int (f x y)) s3 with | some s4 => .nx s4 | none => .no)
    cases q : setIt a (.int k) (.int (f x y)) s3 <;> rw [q] at h <;> exact h))
end
end Y

/-! # dicts whose keys are tuples -/
namespace Y
open PySem L2 Z
section
variable {K : PySem.W.Frag} {ct : Ct} {H0 : Hp} {W : WX} {S : Sh} {s : Stt} {σ : St} {H : Hp}
theorem viewDT_ok {Hs : Hp} {v : V} {a : AI} {l : List (List Key × D)} (r : Rel K ct H0 S s σ H) (i : ItOk K ct Hs S s σ H v a) (e : viewDT s a = some l) : ∃ p kvs, v = .ref p ∧ Rd H p (.dT kvs) ∧ RpK K S.G S.α s.M.length kvs l := by
  have frz : ∀ {u : V} {d : D}, Rp K S.G S.α s.M.length u d → dictTOf s.M d = some l → ∃ p kvs, u = .ref p ∧ Rd H p (.dT kvs) ∧ RpK K S.G S.α s.M.length kvs l := fun {u d} h e => by
    cases d with
    | dT l' => cases e; cases h with | dT h1 h3 h2 => exact ⟨_, _, rfl, uT' (r.sub _ _ h1), .of h3 h2⟩
    | cid k =>
      cases h
      obtain ⟨c, q, e1⟩ := Option.bind_eq_some_iff.mp (show s.M[k]?.bind Cn.aT = some l from e)
      cases c with
      | dT l' =>
        cases e1
        obtain ⟨vs, h1, h3, h2⟩ := (r.ids k _ q).2
        exact ⟨_, vs, rfl, .inl h1, .of h3 h2⟩
      | _ => cases e1
    | _ => cases e
  have own : ∀ {p : Addr} {c : Cn}, CnOk K ct S s.M.length H p c → dictTOf s.M c.toD = some l → ∃ q kvs, V.ref p = .ref q ∧ Rd H q (.dT kvs) ∧ RpK K S.G S.α s.M.length kvs l := fun {p c} h e => by
    cases c with
    | dT l' => cases e; obtain ⟨vs, h1, h3, h2⟩ := h; exact ⟨p, vs, rfl, .inl h1, .of h3 h2⟩
    | lst l' => cases e
    | dK l' => cases e
    | obj _ _ => cases e
  unfold viewDT at e
  cases a with
  | val d => exact frz i e
  | new c =>
    obtain ⟨p, rfl, _, _, _, hc, h5⟩ := i
    exact own h5 e
  | slot j =>
    obtain ⟨d, q0, e⟩ := Option.bind_eq_some_iff.mp e
    obtain ⟨en, q1, rfl⟩ := Option.map_eq_some_iff.mp q0
    have q := entAt_eq q1
    have hi : σ[j]? = some (some v) := i
    have hh := r.slot j en q
    cases en with
    | fz d =>
      obtain ⟨v', h1, h2⟩ := hh
      rw [hi] at h1; cases h1
      exact frz h2 e
    | xn x => exact (entAt_xn q1).elim
    | ow c =>
      obtain ⟨p, h1, _, _, hc, h5⟩ := hh
      rw [hi] at h1; cases h1
      exact own h5 e
def keysD : List D → Option (List Key)
  | [] => some []
  | d :: l => (keyOf d).bind fun k => (keysD l).map (k :: ·)
def tkey : D → Option (List Key)
  | .tup l => keysD l
  | _ => none
theorem keysD_rp {G : Hp} {α : Nat → Addr} {n : Nat} : ∀ {l : List D} {vs : List V} {ks : List Key}, RpL K G α n vs l → keysD l = some ks → vs = ks.map kV
  | [], _, _, .nil, e => by cases e; rfl
  | d :: l, _, _, .cons h r, e => by
    obtain ⟨k, e1, e2⟩ := Option.bind_eq_some_iff.mp (show (keyOf d).bind (fun k => (keysD l).map (k :: ·)) = _ from e)
    obtain ⟨ks, e3, rfl⟩ := Option.map_eq_some_iff.mp e2
    rw [keyOf_rp h e1, keysD_rp r e3]; rfl
theorem tkey_rp {n : Nat} {v : V} {d : D} {ks : List Key} (rel : Rel K ct H0 S s σ H) (h : Rp K S.G S.α n v d) (e : tkey d = some ks) : ∃ b, v = .ref b ∧ H b = some (.tup (ks.map kV)) := by
  cases h with
  | tup h1 h2 =>
    refine ⟨_, rfl, ?_⟩
    rw [← keysD_rp h2 e]
    exact uP' (rel.sub _ _ h1)
  | _ => cases e
theorem dgetT_ok {n : Nat} {p b : Addr} {kvs : List (List Key × V)} {l : List (List Key × D)} {k : List Key} (h : Rd H p (.dT kvs)) (hb : H b = some (.tup (k.map kV))) (r : RpK K S.G S.α n kvs l) :
    (vl l k = none ∧ DGet H p (.ref b) none) ∨ ∃ v d, vl l k = some d ∧ DGet H p (.ref b) (some v) ∧ Rp K S.G S.α n v d := by
  have g : DGet H p (.ref b) (valV kvs k) := .inr ⟨kvs, k, b, h, rfl, hb, rfl⟩
  rcases r.get (k := k) with ⟨h1, h2⟩ | ⟨v, d, h1, h2, h3⟩
  · rw [h2] at g; exact .inl ⟨h1, g⟩
  · rw [h2] at g; exact .inr ⟨v, d, h1, g, h3⟩
def fIxDT : Stt → AI → AI → Ro AI := fun s a b => match viewDT s a, b with
  | some l, .val i => match (tkey i).bind (vl l) with
    | some d => .ok (.val d) s
    | none => .no
  | _, _ => .no
theorem j_ixDT : J2 K ct H0 (rIxY K) fIxDT := fun W S s σ H Hs Hs' x y a b Q rel ia ib p => by
  unfold fIxDT at p
  split at p
  · rename_i l i e1
    obtain ⟨q, kvs, rfl, h1, h2⟩ := viewDT_ok rel ia e1
    split at p
    · rename_i d e
      obtain ⟨k, ek, ev⟩ := Option.bind_eq_some_iff.mp e
      obtain ⟨b, rfl, hb⟩ := tkey_rp rel ib ek
      rcases dgetT_ok h1 hb h2 with ⟨h3, h4⟩ | ⟨v, d', h3, h4, h5⟩
      · rw [h3] at ev; cases ev
      · rw [h3] at ev; cases ev
        exact .inr ⟨q, v, rfl, h4, p.val rel h5⟩
    · exact False.elim p
  · exact False.elim p
def fInDT (g : Bool → Bool) : Stt → AI → AI → Ro AI := fun s a b => match a, viewDT s b with
  | .val i, some l => match tkey i with
    | some k => .ok (.val (.bl (g (vl l k).isSome))) s
    | none => .no
  | _, _ => .no
theorem inDT_ok {g : Bool → Bool} : J2 K ct H0 (rDIn g) (fInDT g) := fun W S s σ H Hs Hs' x y a b Q rel ia ib p => by
  unfold fInDT at p
  split at p
  · rename_i i l e1
    obtain ⟨q, kvs, rfl, h1, h2⟩ := viewDT_ok rel ib e1
    split at p
    · rename_i k ek
      obtain ⟨b, rfl, hb⟩ := tkey_rp rel ia ek
      rcases dgetT_ok h1 hb h2 with ⟨h3, h4⟩ | ⟨v, d', h3, h4, h5⟩
      · rw [h3] at p; exact ⟨q, _, rfl, h4, p.val rel (.bl _)⟩
      · rw [h3] at p; exact ⟨q, _, rfl, h4, p.val rel (.bl _)⟩
    · exact False.elim p
  · exact False.elim p
theorem j_inDT : J2 K ct H0 (rInY K) (fInDT id) := fun W S s σ H Hs Hs' x y a b Q rel ia ib p => .inr (inDT_ok W S s σ H Hs Hs' x y a b Q rel ia ib p)
theorem j_ninDT : J2 K ct H0 (rNinY K) (fInDT not) := fun W S s σ H Hs Hs' x y a b Q rel ia ib p => .inr (inDT_ok W S s σ H Hs Hs' x y a b Q rel ia ib p)
/-- o[i] = d -/
def setItT (a : AI) (i d : D) (s : Stt) : Option Stt := match getC s a with
  | some (.dT l) => (tkey i).bind fun k => if l.length < sizeLine then some (setC s a (.dT (pu l k d))) else none
  | _ => none
theorem setItT_ok {Hs : Hp} {x y v : V} {a : AI} {i d : D} {s' : Stt} {Q : Hp → Prop} (rel : Rel K ct H0 S s σ H) (ia : ItOk K ct Hs S s σ H x a) (ii : Rp K S.G S.α s.M.length y i) (id : Rp K S.G S.α s.M.length v d) (e : setItT a i d s = some s')
    (q : ∀ H', Stp S s.M.length H S s'.M.length H' → Rel K ct H0 S s' σ H' → Q H') : rSetY x y v H Q := by
  unfold setItT at e
  split at e
  · rename_i l eg
    obtain ⟨k, e1, e2⟩ := Option.bind_eq_some_iff.mp e
    split at e2
    · rename_i hz
      cases e2
      obtain ⟨p, rfl, ⟨us, h1, h3, h2⟩, h4⟩ := mut_ok rel ia eg
      obtain ⟨b, rfl, hb⟩ := tkey_rp rel ii e1
      have rk := RpK.of h3 h2
      have rk' := rk.put (k := k) id
      obtain ⟨r1, r2⟩ := h4 (.dT (putK us k v)) (.dT (pu l k d)) (fun _ => rfl) ⟨_, upd_same, rk'.keys, rk'.vals⟩
      exact .inr ⟨p, _, rfl, DPut.t h1 hb (by rw [rk.len]; exact hz), q _ r2 r1⟩
    · cases e2
  · cases e
def mAsgST (mo mi : Mo AI) (mv : Mo AI) : Ms := fun s => (mV mv s).toS fun d s1 => (mo s1).toS fun a s2 => (mV mi s2).toS fun i s3 => match setItT a i d s3 with
  | some s4 => .nx s4
  | none => .no
theorem sv_asgST {te to ti : TE} {mo mi mv : Mo AI} (hv : Ei K ct H0 W te mv) (ho : Ei K ct H0 W to mo) (hi : Ei K ct H0 W ti mi) : Sv K ct H0 W (tAsg te (gSub to ti rSetY)) (mAsgST mo mi mv) := fun S s σ H Dn rel p =>
  ev_of hv S s σ H _ rel (PstS.bind p fun S1 s1 H1 v d st1 rel1 i1 p1 => ho S1 s1 σ H1 _ rel1 (PstS.bind (PstS.from p1 st1) fun S2 s2 H2 x a st2 rel2 i2 p2 => ev_of hi S2 s2 σ H2 _ rel2 (PstS.bind (PstS.from p2 st2) fun S3 s3 H3 y i st3 rel3 i3 p3 => by
    have p3 := PstS.from p3 st3
    split at p3
    · rename_i s4 e
      exact setItT_ok rel3 (i2.step st3) i3 (Rp.step (st2.trans st3) i1) e fun H' st rl => p3 S3 σ H' st rl
    · exact False.elim p3)))
def mDNewT : Mo AI := fun s => .ok (.new (.dT [])) s
theorem ei_dnewT : Ei K ct H0 W tDNewT mDNewT := fun S s σ H Q rel p q hq => p.newC rel hq rfl ⟨[], upd_same, rfl, .nil⟩
/-- d.get(k), d.get(k, x) -/
def fGetT (s : Stt) (a : AI) (i x : D) : Ro AI := match viewDT s a with
  | some l => match tkey i with
    | some k => .ok (.val ((vl l k).getD x)) s
    | none => .no
  | none => .no
def mGet2T (mo mi mx : Mo AI) : Mo AI := fun s => (mo s).bind fun a s1 => match viewDT s1 a with
  | some _ => (mV mi s1).bind fun i s2 => (mV mx s2).bind fun x s3 => fGetT s3 a i x
  | none => .no
theorem ei_get2T {td ty tx : TE} {mo mi mx : Mo AI} (ho : Ei K ct H0 W td mo) (hi : Ei K ct H0 W ty mi) (hx : Ei K ct H0 W tx mx) : Ei K ct H0 W (tDGet2 td ty tx) (mGet2T mo mi mx) := fun S s σ H Q rel p =>
  ho S s σ H _ rel (Pst.bind bI p fun S1 s1 H1 x a st1 rel1 i1 p1 => by
    split at p1
    · rename_i l e
      obtain ⟨q, kvs, rfl, h1, h2⟩ := viewDT_ok rel1 i1 e
      refine ⟨q, rfl, .inr ⟨kvs, h1⟩, ev_of hi S1 s1 σ H1 _ rel1 (Pst.bind bI p1 fun S2 s2 H2 y i st2 rel2 i2 p2 => ev_of hx S2 s2 σ H2 _ rel2 (Pst.bind bI p2 fun S3 s3 H3 z xd st3 rel3 i3 p3 => ?_))⟩
      unfold fGetT at p3
      split at p3
      · rename_i l' e'
        split at p3
        · rename_i k ek
          obtain ⟨q', kvs', eq', g1, g2⟩ := viewDT_ok rel3 ((i1.step st2).step st3) e'
          cases eq'
          obtain ⟨b, rfl, hb⟩ := tkey_rp rel3 (Rp.step st3 i2) ek
          rcases dgetT_ok g1 hb g2 with ⟨z1, z2⟩ | ⟨v, d0, z1, z2, z3⟩
          · rw [z1] at p3; exact ⟨none, z2, p3.val rel3 i3⟩
          · rw [z1] at p3; exact ⟨some v, z2, p3.val rel3 z3⟩
        · exact False.elim p3
      · exact False.elim p3
    · exact False.elim p1)
def mGet1T (mo mi : Mo AI) : Mo AI := fun s => (mo s).bind fun a s1 => match viewDT s1 a with
  | some _ => (mV mi s1).bind fun i s2 => fGetT s2 a i .non
  | none => .no
theorem ei_get1T {td ty : TE} {mo mi : Mo AI} (ho : Ei K ct H0 W td mo) (hi : Ei K ct H0 W ty mi) : Ei K ct H0 W (tDGet1 td ty) (mGet1T mo mi) := fun S s σ H Q rel p =>
  ho S s σ H _ rel (Pst.bind bI p fun S1 s1 H1 x a st1 rel1 i1 p1 => by
    split at p1
    · rename_i l e
      obtain ⟨q, kvs, rfl, h1, h2⟩ := viewDT_ok rel1 i1 e
      refine ⟨q, rfl, .inr ⟨kvs, h1⟩, ev_of hi S1 s1 σ H1 _ rel1 (Pst.bind bI p1 fun S2 s2 H2 y i st2 rel2 i2 p2 => ?_)⟩
      unfold fGetT at p2
      split at p2
      · rename_i l' e'
        split at p2
        · rename_i k ek
          obtain ⟨q', kvs', eq', g1, g2⟩ := viewDT_ok rel2 (i1.step st2) e'
          cases eq'
          obtain ⟨b, rfl, hb⟩ := tkey_rp rel2 i2 ek
          rcases dgetT_ok g1 hb g2 with ⟨z1, z2⟩ | ⟨v, d0, z1, z2, z3⟩
          · rw [z1] at p2; exact ⟨none, z2, p2.val rel2 .non⟩
          · rw [z1] at p2; exact ⟨some v, z2, p2.val rel2 z3⟩
        · exact False.elim p2
      · exact False.elim p2
    · exact False.elim p1)
/-- d.get(k) of a dict with plain keys -/
def mGet1 (mo mi : Mo AI) : Mo AI := fun s => (mo s).bind fun a s1 => match viewD s1 a with
  | some _ => (mV mi s1).bind fun i s2 => fGet s2 a i .non
  | none => .no
theorem ei_get1 {td ty : TE} {mo mi : Mo AI} (ho : Ei K ct H0 W td mo) (hi : Ei K ct H0 W ty mi) : Ei K ct H0 W (tDGet1 td ty) (mGet1 mo mi) := fun S s σ H Q rel p =>
  ho S s σ H _ rel (Pst.bind bI p fun S1 s1 H1 x a st1 rel1 i1 p1 => by
    split at p1
    · rename_i l e
      obtain ⟨q, kvs, rfl, h1, h2⟩ := viewD_ok rel1 i1 e
      refine ⟨q, rfl, .inl ⟨kvs, h1⟩, ev_of hi S1 s1 σ H1 _ rel1 (Pst.bind bI p1 fun S2 s2 H2 y i st2 rel2 i2 p2 => ?_)⟩
      unfold fGet at p2
      split at p2
      · rename_i l' e'
        split at p2
        · rename_i k ek
          obtain ⟨q', kvs', eq', g1, g2⟩ := viewD_ok rel2 (i1.step st2) e'
          cases eq'
          rw [keyOf_rp i2 ek]
          rcases dget_ok (k := k) g1 g2 with ⟨z1, z2⟩ | ⟨v, d0, z1, z2, z3⟩
          · rw [z1] at p2; exact ⟨none, z2, p2.val rel2 .non⟩
          · rw [z1] at p2; exact ⟨some v, z2, p2.val rel2 z3⟩
        · exact False.elim p2
      · exact False.elim p2
    · exact False.elim p1)
end
/-! ## steps -/
section
variable {s : Stt} {X : Exn → Stt → Prop} {QA : AI → Stt → Prop} {N : Stt → Prop} {O : Rs → Prop} {m1 m2 m3 : Mo AI}
theorem w_dnewT (h : QA (.new (.dT [])) s) : Wo QA X (mDNewT s) := h
theorem w_ixDT {a : AI} {i d : D} {l : List (List Key × D)} {k : List Key} (e0 : viewDT s a = some l) (ek : tkey i = some k) (e : vl l k = some d) (h : QA (.val d) s) : Wo QA X (fIxDT s a (.val i)) := by
  unfold fIxDT; rw [e0]; simp only []; rw [ek, Option.bind_some, e]; exact h
theorem w_inDT {g : Bool → Bool} {b : AI} {i : D} {l : List (List Key × D)} {k : List Key} (e0 : viewDT s b = some l) (ek : tkey i = some k) (h : QA (.val (.bl (g (vl l k).isSome))) s) : Wo QA X (fInDT g s (.val i) b) := by
  unfold fInDT; rw [e0]; simp only []; rw [ek]; exact h
theorem so_setT {a : AI} {i d : D} {l : List (List Key × D)} {k : List Key} (e : getC s a = some (.dT l)) (e2 : tkey i = some k) (hz : l.length < sizeLine) (h : N (setC s a (.dT (pu l k d)))) : So N (setItT a i d s) := by
  unfold setItT; rw [e]; simp only []; rw [e2, Option.bind_some, if_pos hz]; exact h
theorem w_asgST (h : Wo (fun d s1 => Wo (fun a s2 => Wo (fun i s3 => So N (setItT a i d s3)) (fun x s => O (.er x s)) (mV m2 s2)) (fun x s => O (.er x s)) (m1 s1)) (fun x s => O (.er x s)) (mV m3 s)) : Ws N O (mAsgST m1 m2 m3 s) :=
  w_toS (w_mono h fun d s1 h => w_toS (w_mono h fun a s2 h => w_toS (w_mono h fun i s3 h => by
    show Ws N O (match setItT a i d s3 with | some s4 => _ | none => _)
    cases e : setItT a i d s3 with
    | none => rw [e] at h; exact h.elim
    | some s4 => rw [e] at h; exact h)))
theorem w_get2T (h : Wo (fun a s1 => (∃ l, viewDT s1 a = some l) ∧ Wo (fun i s2 => Wo (fun x s3 => ∃ l k, viewDT s3 a = some l ∧ tkey i = some k ∧ QA (.val ((vl l k).getD x)) s3) X (mV m3 s2)) X (mV m2 s1)) X (m1 s)) : Wo QA X (mGet2T m1 m2 m3 s) := w_bind (w_mono h fun a s1 ⟨⟨l, e⟩, h⟩ => by
  show Wo QA X (match viewDT s1 a with | some _ => _ | none => _)
  rw [e]
  exact w_bind (w_mono h fun i s2 h => w_bind (w_mono h fun x s3 ⟨l', k, e1, e2, h⟩ => by
    unfold fGetT; rw [e1]; simp only []; rw [e2]; exact h)))
theorem w_get1T (h : Wo (fun a s1 => (∃ l, viewDT s1 a = some l) ∧ Wo (fun i s2 => ∃ l k, viewDT s2 a = some l ∧ tkey i = some k ∧ QA (.val ((vl l k).getD .non)) s2) X (mV m2 s1)) X (m1 s)) : Wo QA X (mGet1T m1 m2 s) := w_bind (w_mono h fun a s1 ⟨⟨l, e⟩, h⟩ => by
  show Wo QA X (match viewDT s1 a with | some _ => _ | none => _)
  rw [e]
  exact w_bind (w_mono h fun i s2 ⟨l', k, e1, e2, h⟩ => by
    show Wo QA X (fGetT s2 a i .non)
    unfold fGetT; rw [e1]; simp only []; rw [e2]; exact h))
theorem w_get1 (h : Wo (fun a s1 => (∃ l, viewD s1 a = some l) ∧ Wo (fun i s2 => ∃ l k, viewD s2 a = some l ∧ keyOf i = some k ∧ QA (.val ((vl l k).getD .non)) s2) X (mV m2 s1)) X (m1 s)) : Wo QA X (mGet1 m1 m2 s) := w_bind (w_mono h fun a s1 ⟨⟨l, e⟩, h⟩ => by
  show Wo QA X (match viewD s1 a with | some _ => _ | none => _)
  rw [e]
  exact w_bind (w_mono h fun i s2 ⟨l', k, e1, e2, h⟩ => by
    show Wo QA X (fGet s2 a i .non)
    unfold fGet; rw [e1]; simp only []; rw [e2]; exact h))
theorem viewDT_cid {k : Nat} {l : List (List Key × D)} (h : s.M[k]? = some (.dT l)) : viewDT s (.val (.cid k)) = some l := by
  show s.M[k]?.bind Cn.aT = some l; rw [h]; rfl
end
end Y

namespace K31
open PySem L2 Z Y
-- side questions
local macro_rules | `(tactic| walk_at "sd") => `(tactic| first
  | omega | assumption | (show (_ : Nat) ≤ 16777216; simp; done) | (show (_ : Nat) ≤ 16777216; simp; omega) | (show (_ : Nat) < 16777216; simp; done) | (show (_ : Nat) < 16777216; simp; omega) | decide | exact Or.inr ⟨by omega, by omega⟩ | exact Or.inl ⟨by omega, by omega⟩ | exact ⟨by omega, by omega⟩ | exact ⟨by omega, by omega, by omega⟩ | exact ⟨by omega, by omega, by omega, by omega⟩ | exact ⟨by omega, by omega, by decide⟩)
local macro_rules | `(tactic| walk_at "ds") => `(tactic| dsimp only [List.set, setC, wipeS, wipeE, Y.rest, kp, Cn.toD])
local macro_rules | `(tactic| walk_at "f0") => `(tactic| (refine Y.f_fn rfl ?_; simp only [List.map_cons, List.map_nil, List.length_cons, List.length_nil, List.replicate, Nat.reduceSub, Nat.reduceAdd, List.cons_append, List.nil_append]))
local macro_rules | `(tactic| walk_at "fx") => `(tactic| (refine Y.f_fnX rfl ?_; simp only [List.map_cons, List.map_nil, List.length_cons, List.length_nil, List.replicate, Nat.reduceSub, Nat.reduceAdd, List.cons_append, List.nil_append]))
local macro_rules | `(tactic| walk_at "f00") => `(tactic| (refine Y.f_fn0 rfl ?_; simp only [List.map_cons, List.map_nil, List.length_cons, List.length_nil, List.replicate, Nat.reduceSub, Nat.reduceAdd, List.cons_append, List.nil_append]))
-- one step of a mirror
local macro_rules | `(tactic| walk_at "w1") => `(tactic| first
  | with_reducible refine Y.w_seq ?_
  | with_reducible refine Y.w_asg ?_
  | ((with_reducible show Y.Wo _ _ (Y.mName _ _)); first | refine Y.w_nameF rfl ?_ | refine Y.w_nameO rfl ?_)
  | with_reducible refine Y.w_c ?_
  | with_reducible refine Y.w_op ?_
  | with_reducible refine Y.w_addI ?_
  | with_reducible refine Y.w_I0 ?_
  | ((with_reducible refine Y.w_I ?_ ?_); (focus (· walk_at "sd")))
  | ((with_reducible refine Y.w_mulI ?_ ?_); (focus (· walk_at "sd")))
  | with_reducible refine Y.w_eqI ?_
  | ((with_reducible show Y.Wo _ _ (Y.fEq _ (.val (.str _)) (.val (.str _)))); refine Y.w_eqS (by decide +kernel) (by decide +kernel) ?_)
  | ((with_reducible show Y.Wo _ _ (Y.fNe _ (.val (.str _)) (.val (.str _)))); refine Y.w_neS (by decide +kernel) (by decide +kernel) ?_)
  | with_reducible refine Y.w_neI ?_
  | (with_reducible refine Y.w_asgV ?_; walk_at "ds")
  | (with_reducible refine Y.w_asgN ?_; walk_at "ds")
  | ((with_reducible show Y.Ws _ _ (Y.asg _ (.slot _) _)); refine Y.w_asgI rfl ?_; walk_at "ds")
  | with_reducible refine Y.w_ret ?_
  | with_reducible refine Y.w_retV ?_
  | with_reducible refine Y.w_retN' ?_
  | ((with_reducible show Y.Ws _ _ (Y.ret (.slot _) _)); refine Y.w_retS rfl ?_; walk_at "ds")
  | with_reducible refine Y.w_retN ?_
  | with_reducible refine Y.w_ifS ?_
  | with_reducible refine Y.w_bl ?_
  | with_reducible refine Y.w_blB ?_
  | with_reducible refine Y.w_tru ?_
  | with_reducible refine Y.w_truB ?_
  | with_reducible refine Y.w_truI ?_
  | with_reducible refine Y.w_blV ?_
  | with_reducible refine Y.w_and ?_
  | with_reducible refine Y.w_or ?_
  | with_reducible refine Y.w_not ?_
  | with_reducible refine Y.w_andV ?_
  | with_reducible refine Y.w_orV ?_
  | with_reducible refine Y.w_notV ?_
  | with_reducible refine Y.w_ifE ?_
  | with_reducible refine Y.w_chain ?_
  | with_reducible refine Z.z_iT ?_
  | with_reducible refine Z.z_iF ?_
  | with_reducible refine Z.z_inT ?_
  | with_reducible refine Z.z_inF ?_
  | with_reducible refine Z.z_ifR ?_
  | with_reducible refine Z.z_ifnR ?_
  | ((with_reducible refine Z.z_ifY ?_ ?_); (focus (· omega)))
  | ((with_reducible refine Z.z_ifN ?_ ?_); (focus (· omega)))
  | ((with_reducible refine Z.z_ifnY ?_ ?_); (focus (· omega)))
  | ((with_reducible refine Z.z_ifnN ?_ ?_); (focus (· omega)))
  | with_reducible refine Y.w_aNil ?_
  | with_reducible refine Y.w_aCons ?_
  | with_reducible refine Y.w_vNil ?_
  | with_reducible refine Y.w_vCons ?_
  | with_reducible refine Y.w_V ?_
  | with_reducible refine Y.w_toVV ?_
  | (with_reducible refine Y.w_toVN ?_; dsimp only [Cn.toD])
  | ((with_reducible show Y.Wo _ _ (Y.toV (.slot _) _)); refine Y.w_toVS rfl ?_; walk_at "ds")
  | with_reducible refine Y.w_lst ?_
  | with_reducible refine Y.w_tup ?_
  | with_reducible refine Y.w_oNo ?_
  | with_reducible refine Y.w_oSm ?_
  | with_reducible refine Y.w_intI ?_
  | with_reducible refine Y.w_sl ?_
  | with_reducible refine Y.w_cb ?_
  | with_reducible refine Y.w_I2 ?_
  | with_reducible refine Y.w_intB ?_
  | with_reducible refine Y.w_un ?_
  | with_reducible refine Y.w_neg ?_
  | ((with_reducible show Y.Wo _ _ (Y.fLen _ [_])); refine Y.w_len rfl rfl ?_)
  | ((with_reducible show Y.Wo _ _ (Y.fList _ [_])); refine Y.w_list rfl ?_)
  | ((with_reducible show Y.Wo _ _ (Y.fSl _ _ _ _)); refine Y.w_slL rfl rfl ?_)
  | with_reducible refine Y.w_bm ?_
  | with_reducible refine Y.w_asgK ?_
  | with_reducible refine Y.w_sjoin ?_
  | ((with_reducible refine Y.w_mulS ?_ ?_); (focus (· walk_at "sd")))
  | with_reducible refine Y.w_lr1 ?_
  | ((with_reducible refine Y.w_lr1I ?_ ?_ ?_); (focus (· walk_at "sd")); (focus (· walk_at "sd")))
  | with_reducible refine Y.w_abs ?_
  | with_reducible refine Y.w_sidx ?_
  | with_reducible refine Y.w_rng3 ?_
  | with_reducible refine Y.w_callN ?_
  | with_reducible refine Y.w_par ?_
  | ((with_reducible show Y.Wo _ _ (Y.mLcD _ _ _ _ _ _ _)); first | refine Y.w_lcD1 rfl ?_ | (refine Y.w_lcD2 rfl ?_; walk_at "ds"))
  | with_reducible refine Y.w_pop ?_
  | with_reducible refine Y.w_dnew ?_
  | with_reducible refine Y.w_dnewT ?_
  | with_reducible refine Y.w_asgST ?_
  | with_reducible refine Y.w_get2T ?_
  | with_reducible refine Y.w_get1T ?_
  | with_reducible refine Y.w_get1 ?_
  | with_reducible refine Y.w_sortVals ?_
  | with_reducible refine Y.w_minVals ?_
  | with_reducible refine Y.w_asgTB ?_
  | with_reducible refine Y.w_get2 ?_
  | with_reducible refine Y.w_wn ?_
  | ((with_reducible show ∃ l, AI.new (.dK _) = AI.new (.dK l) ∧ _); refine ⟨_, rfl, ?_⟩)
  | with_reducible refine Y.w_fldS ?_
  | with_reducible refine Y.w_K ?_
  | with_reducible refine Y.w_toKV ?_
  | (with_reducible refine Y.w_toKN ?_; try (dsimp only [List.length_cons, List.length_nil, List.cons_append, List.nil_append, Nat.reduceAdd]))
  | with_reducible refine Y.w_toKS ?_
  | with_reducible refine Y.w_fld ?_
  | with_reducible refine Y.w_fldA ?_
  | with_reducible refine Y.w_methN ?_
  | with_reducible refine Y.w_methS ?_
  | with_reducible refine Y.w_makeN ?_
  | with_reducible refine Y.w_makeS ?_
  | ((with_reducible show ∃ k c fs d, Y.objAt _ _ = some (k, c, fs) ∧ _ ∧ _ ∧ _); first | refine ⟨_, _, _, _, rfl, rfl, rfl, ?_⟩ | refine ⟨_, _, _, _, Y.objAt_of (by assumption), rfl, rfl, ?_⟩)
  | ((with_reducible show ∃ k fs, Y.objAt _ _ = some (k, _, fs) ∧ _ ∧ _); first | refine ⟨_, _, rfl, rfl, ?_⟩ | refine ⟨_, _, Y.objAt_of (by assumption), rfl, ?_⟩)
  | ((with_reducible show ∃ k c fs, Y.objAt _ _ = some (k, c, fs) ∧ _ ∧ _); first | refine ⟨_, _, _, rfl, ⟨rfl, by first | decide | simp⟩, ?_⟩ | refine ⟨_, _, _, Y.objAt_of (by assumption), ⟨rfl, by first | decide | simp⟩, ?_⟩)
  | ((with_reducible show (∃ l, Y.viewD _ _ = some l) ∧ _); refine ⟨⟨_, rfl⟩, ?_⟩)
  | with_reducible refine Y.w_call ?_
  | with_reducible refine Y.w_raise ?_
  | with_reducible refine Y.w_raiseA ?_
  | with_reducible refine Y.w_tryA ?_
  | with_reducible refine Y.w_tryM ?_
  | ((with_reducible show Y.Wo _ _ (Y.mXf _ _ _ _)); refine Y.w_xf rfl rfl rfl ?_)
  | ((with_reducible show Y.Wo _ _ (Y.mIsX _ _ _)); refine Y.w_isX rfl rfl ?_)
  | ((with_reducible show ∃ w x, [_, _] = [w, x] ∧ _); refine ⟨_, _, rfl, ?_⟩; try (walk_at "ds"))
  | with_reducible refine Y.w_callB ?_
  | with_reducible refine Y.w_callC ?_
  | with_reducible refine Y.w_drop ?_
  | with_reducible refine Y.w_next ?_
  | with_reducible refine Y.w_for ?_
  | with_reducible refine Y.w_rng1 ?_
  | ((with_reducible refine Y.w_rng1I ?_ ?_); (focus (· walk_at "sd")))
  | with_reducible refine Y.w_rng2 ?_
  | ((with_reducible refine Y.w_rng2I ?_ ?_); (focus (· walk_at "sd")))
  | with_reducible refine Y.w_wl ?_
  | ((with_reducible show ∃ l', Y.listOf _ _ = some l' ∧ _); refine ⟨_, rfl, ?_⟩; dsimp only [ckOf])
  | with_reducible refine Y.w_augS ?_
  | with_reducible refine Y.w_wz ?_
  | with_reducible refine Y.w_wzI ?_
  | with_reducible refine Y.w_wt ?_
  | with_reducible refine Y.w_we ?_
  | ((with_reducible show ∃ d' l', [_] = [d'] ∧ Y.listOf _ d' = some l' ∧ _); refine ⟨_, _, rfl, rfl, ?_⟩; dsimp only [ckOf])
  | with_reducible refine Y.w_ws ?_
  | with_reducible refine Y.w_lc ?_
  | with_reducible refine Y.w_asgT ?_
  | with_reducible refine Y.w_asgS ?_
  | ((with_reducible show Y.Ws _ _ (Y.mAug _ _ _ _)); refine Y.w_aug rfl ?_)
  | with_reducible refine Y.w_isB ?_
  | with_reducible refine Y.w_isnB ?_
  | ((with_reducible show Y.Wo _ _ (Y.fIs _ _ (.val .non))); refine Y.w_isN rfl ?_)
  | ((with_reducible show Y.Wo _ _ (Y.fIsn _ _ (.val .non))); refine Y.w_isnN rfl ?_)
  | ((with_reducible show ∃ l, Y.viewL _ _ = some l ∧ _); refine ⟨_, rfl, ?_⟩)
  | ((with_reducible show ∃ l, Y.tupOf _ = some l ∧ _); refine ⟨_, rfl, ?_⟩; try (dsimp only []))
  | ((with_reducible show ∃ x, AI.val (D.str _) = AI.val (D.str x) ∧ _); refine ⟨_, rfl, ?_⟩; try dsimp only [])
  | ((with_reducible show ∃ c, AI.new _ = AI.new c ∧ _); refine ⟨_, rfl, ?_⟩; walk_at "ds")
  | ((with_reducible show _ ∧ Y.Wo _ _ _); refine ⟨by walk_at "sd", ?_⟩)
  | ((with_reducible show _ ≤ sizeLine ∧ _); refine ⟨by walk_at "sd", ?_⟩)
  | ((with_reducible show Y.So _ (Y.tgN _ _ _)); refine Y.so_some ?_; walk_at "ds")
  | ((with_reducible show Y.So _ (Y.tgT _ _ _ _)); refine Y.so_set rfl ?_; walk_at "ds")
  | ((with_reducible show if decide ((Str.ofString _) = Str.ofString _) = true then _ else _); first | refine Z.z_ifY (by decide +kernel) ?_ | refine Z.z_ifN (by decide +kernel) ?_))
local macro_rules | `(tactic| walk_at "w") => `(tactic| repeat (walk_at "w1"))

def top (i : Nat) : Stmt := PySem.Challenge.pw_tornshelf_k31_pieces_made.main.body.getD i (.Pass ⟨0, 0, 0, 0⟩)
abbrev s_BadPaper_init : Stmt := (inClass (top 4) 0)
theorem sc_BadPaper_init : FnScope ["self", "words", "at"] ["self", "words", "at"] (defScope s_BadPaper_init) := ⟨rfl, rfl, rfl, by decide +kernel, rfl, by decide +kernel, by decide +kernel⟩
abbrev s_is_whole_bits : Stmt := (top 7)
theorem sc_is_whole_bits : FnScope ["thing"] ["thing"] (defScope s_is_whole_bits) := ⟨rfl, rfl, rfl, by decide +kernel, rfl, by decide +kernel, by decide +kernel⟩
abbrev s_refuse_unless : Stmt := (top 9)
theorem sc_refuse_unless : FnScope ["good"] ["good"] (defScope s_refuse_unless) := ⟨rfl, rfl, rfl, by decide +kernel, rfl, by decide +kernel, by decide +kernel⟩
abbrev s_Writer_init : Stmt := (inClass (top 10) 0)
theorem sc_Writer_init : FnScope ["self"] ["self"] (defScope s_Writer_init) := ⟨rfl, rfl, rfl, by decide +kernel, rfl, by decide +kernel, by decide +kernel⟩
abbrev s_Writer_put : Stmt := (inClass (top 10) 1)
theorem sc_Writer_put : FnScope ["self", "number", "many", "k"] ["self", "number", "many"] (defScope s_Writer_put) := ⟨rfl, rfl, rfl, by decide +kernel, rfl, by decide +kernel, by decide +kernel⟩
abbrev s_Writer_bits : Stmt := (inClass (top 10) 2)
theorem sc_Writer_bits : FnScope ["self"] ["self"] (defScope s_Writer_bits) := ⟨rfl, rfl, rfl, by decide +kernel, rfl, by decide +kernel, by decide +kernel⟩
abbrev s_Writer_fill : Stmt := (inClass (top 10) 3)
theorem sc_Writer_fill : FnScope ["self"] ["self"] (defScope s_Writer_fill) := ⟨rfl, rfl, rfl, by decide +kernel, rfl, by decide +kernel, by decide +kernel⟩
abbrev s_Writer_row : Stmt := (inClass (top 10) 4)
theorem sc_Writer_row : FnScope ["self", "rest"] ["self"] (defScope s_Writer_row) := ⟨rfl, rfl, rfl, by decide +kernel, rfl, by decide +kernel, by decide +kernel⟩
abbrev s_run_at : Stmt := (top 14)
theorem sc_run_at : FnScope ["row", "place", "distance", "many"] ["row", "place", "distance"] (defScope s_run_at) := ⟨rfl, rfl, rfl, by decide +kernel, rfl, by decide +kernel, by decide +kernel⟩
abbrev s_best_back : Stmt := (top 15)
theorem sc_best_back : FnScope ["row", "place", "window", "best", "distance", "many"] ["row", "place", "window"] (defScope s_best_back) := ⟨rfl, rfl, rfl, by decide +kernel, rfl, by decide +kernel, by decide +kernel⟩
abbrev s_found_in : Stmt := (top 16)
theorem sc_found_in : FnScope ["row", "window", "tokens", "place", "distance", "many"] ["row", "window"] (defScope s_found_in) := ⟨rfl, rfl, rfl, by decide +kernel, rfl, by decide +kernel, by decide +kernel⟩
abbrev s_crc_on : Stmt := (top 21)
theorem sc_crc_on : FnScope ["begun", "row", "found", "byte", "k"] ["begun", "row"] (defScope s_crc_on) := ⟨rfl, rfl, rfl, by decide +kernel, rfl, by decide +kernel, by decide +kernel⟩
abbrev s_crc : Stmt := (top 22)
theorem sc_crc : FnScope ["row"] ["row"] (defScope s_crc) := ⟨rfl, rfl, rfl, by decide +kernel, rfl, by decide +kernel, by decide +kernel⟩
abbrev s_crc_row : Stmt := (top 23)
theorem sc_crc_row : FnScope ["row", "found"] ["row"] (defScope s_crc_row) := ⟨rfl, rfl, rfl, by decide +kernel, rfl, by decide +kernel, by decide +kernel⟩
abbrev s_is_whole_tables : Stmt := (top 28)
theorem sc_is_whole_tables : FnScope ["thing"] ["thing"] (defScope s_is_whole_tables) := ⟨rfl, rfl, rfl, by decide +kernel, rfl, by decide +kernel, by decide +kernel⟩
abbrev s_is_list_of : Stmt := (top 30)
theorem sc_is_list_of : FnScope ["thing", "low", "high", "number"] ["thing", "low", "high"] (defScope s_is_list_of) := ⟨rfl, rfl, rfl, by decide +kernel, rfl, by decide +kernel, by decide +kernel⟩
abbrev s_check_counts : Stmt := (top 31)
theorem sc_check_counts : FnScope ["counts"] ["counts"] (defScope s_check_counts) := ⟨rfl, rfl, rfl, by decide +kernel, rfl, by decide +kernel, by decide +kernel⟩
abbrev s_room_of : Stmt := (top 32)
theorem sc_room_of : FnScope ["lengths", "length"] ["lengths"] (defScope s_room_of) := ⟨rfl, rfl, rfl, by decide +kernel, rfl, by decide +kernel, by decide +kernel⟩
abbrev s_fits : Stmt := (top 33)
theorem sc_fits : FnScope ["lengths"] ["lengths"] (defScope s_fits) := ⟨rfl, rfl, rfl, by decide +kernel, rfl, by decide +kernel, by decide +kernel⟩
abbrev s_check_lengths : Stmt := (top 34)
theorem sc_check_lengths : FnScope ["lengths"] ["lengths"] (defScope s_check_lengths) := ⟨rfl, rfl, rfl, by decide +kernel, rfl, by decide +kernel, by decide +kernel⟩
abbrev s_first_parts : Stmt := (top 35)
theorem sc_first_parts : FnScope ["counts", "found", "symbol", "count"] ["counts"] (defScope s_first_parts) := ⟨rfl, rfl, rfl, by decide +kernel, rfl, by decide +kernel, by decide +kernel⟩
abbrev s_least_part : Stmt := (top 36)
theorem sc_least_part : FnScope ["parts", "number", "weight"] ["parts"] (defScope s_least_part) := ⟨rfl, rfl, rfl, by decide +kernel, rfl, by decide +kernel, by decide +kernel⟩
abbrev s_pairs_of : Stmt := (top 37)
theorem sc_pairs_of : FnScope ["counts", "parts", "paper", "one", "weight", "other"] ["counts"] (defScope s_pairs_of) := ⟨rfl, rfl, rfl, by decide +kernel, rfl, by decide +kernel, by decide +kernel⟩
abbrev s_is_pair : Stmt := (top 38)
theorem sc_is_pair : FnScope ["pair", "parts", "number"] ["pair", "parts"] (defScope s_is_pair) := ⟨rfl, rfl, rfl, by decide +kernel, rfl, by decide +kernel, by decide +kernel⟩
abbrev s_put_together : Stmt := (top 39)
theorem sc_put_together : FnScope ["pair", "parts", "number", "at", "weights"] ["pair", "parts", "number", "at"] (defScope s_put_together) := ⟨rfl, rfl, rfl, by decide +kernel, rfl, by decide +kernel, by decide +kernel⟩
abbrev s_check_paper : Stmt := (top 40)
theorem sc_check_paper : FnScope ["counts", "paper", "parts", "bits", "at", "pair"] ["counts", "paper"] (defScope s_check_paper) := ⟨rfl, rfl, rfl, by decide +kernel, rfl, by decide +kernel, by decide +kernel⟩
abbrev s_lengths_by : Stmt := (top 41)
theorem sc_lengths_by : FnScope ["counts", "paper", "deep", "at", "above", "number", "found", "symbol"] ["counts", "paper"] (defScope s_lengths_by) := ⟨rfl, rfl, rfl, by decide +kernel, rfl, by decide +kernel, by decide +kernel⟩
abbrev s_least_lengths : Stmt := (top 42)
theorem sc_least_lengths : FnScope ["counts"] ["counts"] (defScope s_least_lengths) := ⟨rfl, rfl, rfl, by decide +kernel, rfl, by decide +kernel, by decide +kernel⟩
abbrev s_words_of : Stmt := (top 44)
theorem sc_words_of : FnScope ["lengths", "found", "number", "last", "length", "symbol"] ["lengths"] (defScope s_words_of) := ⟨rfl, rfl, rfl, by decide +kernel, rfl, by decide +kernel, by decide +kernel⟩
abbrev s_symbol_of : Stmt := (top 52)
theorem sc_symbol_of : FnScope ["token"] ["token"] (defScope s_symbol_of) := ⟨rfl, rfl, rfl, by decide +kernel, rfl, by decide +kernel, by decide +kernel⟩
abbrev s_counts_of : Stmt := (top 53)
theorem sc_counts_of : FnScope ["tokens", "counts", "token", "symbol"] ["tokens"] (defScope s_counts_of) := ⟨rfl, rfl, rfl, by decide +kernel, rfl, by decide +kernel, by decide +kernel⟩
abbrev s_put_token : Stmt := (top 54)
theorem sc_put_token : FnScope ["writer", "words", "token", "size", "number"] ["writer", "words", "token"] (defScope s_put_token) := ⟨rfl, rfl, rfl, by decide +kernel, rfl, by decide +kernel, by decide +kernel⟩
abbrev s_packed_body : Stmt := (top 55)
theorem sc_packed_body : FnScope ["row", "window", "tokens", "lengths", "writer", "length", "words", "token"] ["row", "window"] (defScope s_packed_body) := ⟨rfl, rfl, rfl, by decide +kernel, rfl, by decide +kernel, by decide +kernel⟩
abbrev s_body_of : Stmt := (top 56)
theorem sc_body_of : FnScope ["row", "window", "packed"] ["row", "window"] (defScope s_body_of) := ⟨rfl, rfl, rfl, by decide +kernel, rfl, by decide +kernel, by decide +kernel⟩
abbrev s_piece_row : Stmt := (top 57)
theorem sc_piece_row : FnScope ["text", "number", "row", "window", "kind", "body", "told"] ["text", "number", "row", "window"] (defScope s_piece_row) := ⟨rfl, rfl, rfl, by decide +kernel, rfl, by decide +kernel, by decide +kernel⟩
abbrev s_l_draw : Stmt := (top 59)
theorem sc_l_draw : FnScope ["_law_cell"] ["_law_cell"] (defScope s_l_draw) := ⟨rfl, rfl, rfl, by decide +kernel, rfl, by decide +kernel, by decide +kernel⟩
abbrev s_l_next : Stmt := (top 60)
theorem sc_l_next : FnScope ["_law_draw_here", "_law_size", "_law_digit", "_law_number"] ["_law_draw_here", "_law_size"] (defScope s_l_next) := ⟨rfl, rfl, rfl, by decide +kernel, rfl, by decide +kernel, by decide +kernel⟩
abbrev s_l_sum : Stmt := (top 61)
theorem sc_l_sum : FnScope ["_law_row_here", "_law_found", "_law_byte", "_law_k"] ["_law_row_here"] (defScope s_l_sum) := ⟨rfl, rfl, rfl, by decide +kernel, rfl, by decide +kernel, by decide +kernel⟩
abbrev s_l_row : Stmt := (top 62)
theorem sc_l_row : FnScope ["_law_draw_here", "_law_sizes", "_law_size", "_law_way", "_law_low", "_law_row_here", "_law_k"] ["_law_draw_here"] (defScope s_l_row) := ⟨rfl, rfl, rfl, by decide +kernel, rfl, by decide +kernel, by decide +kernel⟩
abbrev s_l_bits : Stmt := (top 63)
theorem sc_l_bits : FnScope ["_law_number", "_law_many", "_law_bits_here", "_law_k"] ["_law_number", "_law_many"] (defScope s_l_bits) := ⟨rfl, rfl, rfl, by decide +kernel, rfl, by decide +kernel, by decide +kernel⟩
abbrev s_l_bytes : Stmt := (top 64)
theorem sc_l_bytes : FnScope ["_law_bits_here", "_law_found", "_law_at", "_law_number", "_law_bit"] ["_law_bits_here"] (defScope s_l_bytes) := ⟨rfl, rfl, rfl, by decide +kernel, rfl, by decide +kernel, by decide +kernel⟩
abbrev s_l_symbols : Stmt := (top 65)
theorem sc_l_symbols : FnScope ["_law_tokens", "_law_found", "_law_token"] ["_law_tokens"] (defScope s_l_symbols) := ⟨rfl, rfl, rfl, by decide +kernel, rfl, by decide +kernel, by decide +kernel⟩
abbrev s_l_packed : Stmt := (top 66)
theorem sc_l_packed : FnScope ["_law_row_here", "_law_window", "_law_tokens", "_law_symbols_here", "_law_lengths", "_law_words", "_law_bits_here", "_law_symbol", "_law_token", "_law_length"] ["_law_row_here", "_law_window"] (defScope s_l_packed) := ⟨rfl, rfl, rfl, by decide +kernel, rfl, by decide +kernel, by decide +kernel⟩
abbrev s_l_due : Stmt := (top 67)
theorem sc_l_due : FnScope ["_law_text", "_law_number", "_law_row_here", "_law_window", "_law_told", "_law_body"] ["_law_text", "_law_number", "_law_row_here", "_law_window"] (defScope s_l_due) := ⟨rfl, rfl, rfl, by decide +kernel, rfl, by decide +kernel, by decide +kernel⟩
abbrev s_law : Stmt := (top 68)
theorem sc_law : FnScope ["_law_script", "_law_k", "_law_draw_here", "_law_window", "_law_text", "_law_number", "_law_row_here", "_law_handed", "_law_due_here", "_law_found"] ["_law_script"] (defScope s_law) := ⟨rfl, rfl, rfl, by decide +kernel, rfl, by decide +kernel, by decide +kernel⟩
/-- what the top has written -/
structure Tx (K : PySem.W.Frag) (mg : Str → Option Value) where
  a_BadPaper_init : Addr
  d_BadPaper_init : FuncData
  F_BadPaper_init : Fun K "__init__" "BadPaper.__init__" s_BadPaper_init a_BadPaper_init d_BadPaper_init
  b_BadPaper_init : Binds K d_BadPaper_init ["self", "words", "at"] []
  a_is_whole_bits : Addr
  d_is_whole_bits : FuncData
  F_is_whole_bits : Fun K "is_whole" "is_whole" s_is_whole_bits a_is_whole_bits d_is_whole_bits
  b_is_whole_bits : Binds K d_is_whole_bits ["thing"] []
  g_is_whole_bits : mg "is_whole_bits" = some (.ref a_is_whole_bits)
  a_refuse_unless : Addr
  d_refuse_unless : FuncData
  F_refuse_unless : Fun K "refuse_unless" "refuse_unless" s_refuse_unless a_refuse_unless d_refuse_unless
  b_refuse_unless : Binds K d_refuse_unless ["good"] []
  g_refuse_unless : mg "refuse_unless" = some (.ref a_refuse_unless)
  a_Writer_init : Addr
  d_Writer_init : FuncData
  F_Writer_init : Fun K "__init__" "Writer.__init__" s_Writer_init a_Writer_init d_Writer_init
  b_Writer_init : Binds K d_Writer_init ["self"] []
  a_Writer_put : Addr
  d_Writer_put : FuncData
  F_Writer_put : Fun K "put" "Writer.put" s_Writer_put a_Writer_put d_Writer_put
  b_Writer_put : Binds K d_Writer_put ["self", "number", "many"] []
  a_Writer_bits : Addr
  d_Writer_bits : FuncData
  F_Writer_bits : Fun K "bits" "Writer.bits" s_Writer_bits a_Writer_bits d_Writer_bits
  b_Writer_bits : Binds K d_Writer_bits ["self"] []
  a_Writer_fill : Addr
  d_Writer_fill : FuncData
  F_Writer_fill : Fun K "fill" "Writer.fill" s_Writer_fill a_Writer_fill d_Writer_fill
  b_Writer_fill : Binds K d_Writer_fill ["self"] []
  a_Writer_row : Addr
  d_Writer_row : FuncData
  F_Writer_row : Fun K "row" "Writer.row" s_Writer_row a_Writer_row d_Writer_row
  b_Writer_row : Binds K d_Writer_row ["self"] []
  a_run_at : Addr
  d_run_at : FuncData
  F_run_at : Fun K "run_at" "run_at" s_run_at a_run_at d_run_at
  b_run_at : Binds K d_run_at ["row", "place", "distance"] []
  g_run_at : mg "run_at" = some (.ref a_run_at)
  a_best_back : Addr
  d_best_back : FuncData
  F_best_back : Fun K "best_back" "best_back" s_best_back a_best_back d_best_back
  b_best_back : Binds K d_best_back ["row", "place", "window"] []
  g_best_back : mg "best_back" = some (.ref a_best_back)
  a_found_in : Addr
  d_found_in : FuncData
  F_found_in : Fun K "found_in" "found_in" s_found_in a_found_in d_found_in
  b_found_in : Binds K d_found_in ["row", "window"] []
  g_found_in : mg "found_in" = some (.ref a_found_in)
  a_crc_on : Addr
  d_crc_on : FuncData
  F_crc_on : Fun K "crc_on" "crc_on" s_crc_on a_crc_on d_crc_on
  b_crc_on : Binds K d_crc_on ["begun", "row"] []
  g_crc_on : mg "crc_on" = some (.ref a_crc_on)
  a_crc : Addr
  d_crc : FuncData
  F_crc : Fun K "crc" "crc" s_crc a_crc d_crc
  b_crc : Binds K d_crc ["row"] []
  g_crc : mg "crc" = some (.ref a_crc)
  a_crc_row : Addr
  d_crc_row : FuncData
  F_crc_row : Fun K "crc_row" "crc_row" s_crc_row a_crc_row d_crc_row
  b_crc_row : Binds K d_crc_row ["row"] []
  g_crc_row : mg "crc_row" = some (.ref a_crc_row)
  a_is_whole_tables : Addr
  d_is_whole_tables : FuncData
  F_is_whole_tables : Fun K "is_whole" "is_whole" s_is_whole_tables a_is_whole_tables d_is_whole_tables
  b_is_whole_tables : Binds K d_is_whole_tables ["thing"] []
  g_is_whole_tables : mg "is_whole_tables" = some (.ref a_is_whole_tables)
  a_is_list_of : Addr
  d_is_list_of : FuncData
  F_is_list_of : Fun K "is_list_of" "is_list_of" s_is_list_of a_is_list_of d_is_list_of
  b_is_list_of : Binds K d_is_list_of ["thing", "low", "high"] []
  g_is_list_of : mg "is_list_of" = some (.ref a_is_list_of)
  a_check_counts : Addr
  d_check_counts : FuncData
  F_check_counts : Fun K "check_counts" "check_counts" s_check_counts a_check_counts d_check_counts
  b_check_counts : Binds K d_check_counts ["counts"] []
  g_check_counts : mg "check_counts" = some (.ref a_check_counts)
  a_room_of : Addr
  d_room_of : FuncData
  F_room_of : Fun K "room_of" "room_of" s_room_of a_room_of d_room_of
  b_room_of : Binds K d_room_of ["lengths"] []
  g_room_of : mg "room_of" = some (.ref a_room_of)
  a_fits : Addr
  d_fits : FuncData
  F_fits : Fun K "fits" "fits" s_fits a_fits d_fits
  b_fits : Binds K d_fits ["lengths"] []
  g_fits : mg "fits" = some (.ref a_fits)
  a_check_lengths : Addr
  d_check_lengths : FuncData
  F_check_lengths : Fun K "check_lengths" "check_lengths" s_check_lengths a_check_lengths d_check_lengths
  b_check_lengths : Binds K d_check_lengths ["lengths"] []
  g_check_lengths : mg "check_lengths" = some (.ref a_check_lengths)
  a_first_parts : Addr
  d_first_parts : FuncData
  F_first_parts : Fun K "first_parts" "first_parts" s_first_parts a_first_parts d_first_parts
  b_first_parts : Binds K d_first_parts ["counts"] []
  g_first_parts : mg "first_parts" = some (.ref a_first_parts)
  a_least_part : Addr
  d_least_part : FuncData
  F_least_part : Fun K "least_part" "least_part" s_least_part a_least_part d_least_part
  b_least_part : Binds K d_least_part ["parts"] []
  g_least_part : mg "least_part" = some (.ref a_least_part)
  a_pairs_of : Addr
  d_pairs_of : FuncData
  F_pairs_of : Fun K "pairs_of" "pairs_of" s_pairs_of a_pairs_of d_pairs_of
  b_pairs_of : Binds K d_pairs_of ["counts"] []
  g_pairs_of : mg "pairs_of" = some (.ref a_pairs_of)
  a_is_pair : Addr
  d_is_pair : FuncData
  F_is_pair : Fun K "is_pair" "is_pair" s_is_pair a_is_pair d_is_pair
  b_is_pair : Binds K d_is_pair ["pair", "parts"] []
  g_is_pair : mg "is_pair" = some (.ref a_is_pair)
  a_put_together : Addr
  d_put_together : FuncData
  F_put_together : Fun K "put_together" "put_together" s_put_together a_put_together d_put_together
  b_put_together : Binds K d_put_together ["pair", "parts", "number", "at"] []
  g_put_together : mg "put_together" = some (.ref a_put_together)
  a_check_paper : Addr
  d_check_paper : FuncData
  F_check_paper : Fun K "check_paper" "check_paper" s_check_paper a_check_paper d_check_paper
  b_check_paper : Binds K d_check_paper ["counts", "paper"] []
  g_check_paper : mg "check_paper" = some (.ref a_check_paper)
  a_lengths_by : Addr
  d_lengths_by : FuncData
  F_lengths_by : Fun K "lengths_by" "lengths_by" s_lengths_by a_lengths_by d_lengths_by
  b_lengths_by : Binds K d_lengths_by ["counts", "paper"] []
  g_lengths_by : mg "lengths_by" = some (.ref a_lengths_by)
  a_least_lengths : Addr
  d_least_lengths : FuncData
  F_least_lengths : Fun K "least_lengths" "least_lengths" s_least_lengths a_least_lengths d_least_lengths
  b_least_lengths : Binds K d_least_lengths ["counts"] []
  g_least_lengths : mg "least_lengths" = some (.ref a_least_lengths)
  a_words_of : Addr
  d_words_of : FuncData
  F_words_of : Fun K "words_of" "words_of" s_words_of a_words_of d_words_of
  b_words_of : Binds K d_words_of ["lengths"] []
  g_words_of : mg "words_of" = some (.ref a_words_of)
  a_symbol_of : Addr
  d_symbol_of : FuncData
  F_symbol_of : Fun K "symbol_of" "symbol_of" s_symbol_of a_symbol_of d_symbol_of
  b_symbol_of : Binds K d_symbol_of ["token"] []
  g_symbol_of : mg "symbol_of" = some (.ref a_symbol_of)
  a_counts_of : Addr
  d_counts_of : FuncData
  F_counts_of : Fun K "counts_of" "counts_of" s_counts_of a_counts_of d_counts_of
  b_counts_of : Binds K d_counts_of ["tokens"] []
  g_counts_of : mg "counts_of" = some (.ref a_counts_of)
  a_put_token : Addr
  d_put_token : FuncData
  F_put_token : Fun K "put_token" "put_token" s_put_token a_put_token d_put_token
  b_put_token : Binds K d_put_token ["writer", "words", "token"] []
  g_put_token : mg "put_token" = some (.ref a_put_token)
  a_packed_body : Addr
  d_packed_body : FuncData
  F_packed_body : Fun K "packed_body" "packed_body" s_packed_body a_packed_body d_packed_body
  b_packed_body : Binds K d_packed_body ["row", "window"] []
  g_packed_body : mg "packed_body" = some (.ref a_packed_body)
  a_body_of : Addr
  d_body_of : FuncData
  F_body_of : Fun K "body_of" "body_of" s_body_of a_body_of d_body_of
  b_body_of : Binds K d_body_of ["row", "window"] []
  g_body_of : mg "body_of" = some (.ref a_body_of)
  a_piece_row : Addr
  d_piece_row : FuncData
  F_piece_row : Fun K "piece_row" "piece_row" s_piece_row a_piece_row d_piece_row
  b_piece_row : Binds K d_piece_row ["text", "number", "row", "window"] []
  g_piece_row : mg "piece_row" = some (.ref a_piece_row)
  a_l_draw : Addr
  d_l_draw : FuncData
  F_l_draw : Fun K "_law_draw" "_law_draw" s_l_draw a_l_draw d_l_draw
  b_l_draw : Binds K d_l_draw ["_law_cell"] []
  g_l_draw : mg "_law_draw" = some (.ref a_l_draw)
  a_l_next : Addr
  d_l_next : FuncData
  F_l_next : Fun K "_law_next" "_law_next" s_l_next a_l_next d_l_next
  b_l_next : Binds K d_l_next ["_law_draw_here", "_law_size"] []
  g_l_next : mg "_law_next" = some (.ref a_l_next)
  a_l_sum : Addr
  d_l_sum : FuncData
  F_l_sum : Fun K "_law_sum" "_law_sum" s_l_sum a_l_sum d_l_sum
  b_l_sum : Binds K d_l_sum ["_law_row_here"] []
  g_l_sum : mg "_law_sum" = some (.ref a_l_sum)
  a_l_row : Addr
  d_l_row : FuncData
  F_l_row : Fun K "_law_row" "_law_row" s_l_row a_l_row d_l_row
  b_l_row : Binds K d_l_row ["_law_draw_here"] []
  g_l_row : mg "_law_row" = some (.ref a_l_row)
  a_l_bits : Addr
  d_l_bits : FuncData
  F_l_bits : Fun K "_law_bits" "_law_bits" s_l_bits a_l_bits d_l_bits
  b_l_bits : Binds K d_l_bits ["_law_number", "_law_many"] []
  g_l_bits : mg "_law_bits" = some (.ref a_l_bits)
  a_l_bytes : Addr
  d_l_bytes : FuncData
  F_l_bytes : Fun K "_law_bytes" "_law_bytes" s_l_bytes a_l_bytes d_l_bytes
  b_l_bytes : Binds K d_l_bytes ["_law_bits_here"] []
  g_l_bytes : mg "_law_bytes" = some (.ref a_l_bytes)
  a_l_symbols : Addr
  d_l_symbols : FuncData
  F_l_symbols : Fun K "_law_symbols" "_law_symbols" s_l_symbols a_l_symbols d_l_symbols
  b_l_symbols : Binds K d_l_symbols ["_law_tokens"] []
  g_l_symbols : mg "_law_symbols" = some (.ref a_l_symbols)
  a_l_packed : Addr
  d_l_packed : FuncData
  F_l_packed : Fun K "_law_packed" "_law_packed" s_l_packed a_l_packed d_l_packed
  b_l_packed : Binds K d_l_packed ["_law_row_here", "_law_window"] []
  g_l_packed : mg "_law_packed" = some (.ref a_l_packed)
  a_l_due : Addr
  d_l_due : FuncData
  F_l_due : Fun K "_law_due" "_law_due" s_l_due a_l_due d_l_due
  b_l_due : Binds K d_l_due ["_law_text", "_law_number", "_law_row_here", "_law_window"] []
  g_l_due : mg "_law_due" = some (.ref a_l_due)
  a_law : Addr
  d_law : FuncData
  F_law : Fun K "law" "law" s_law a_law d_law
  b_law : Binds K d_law ["_law_script"] []
  g_law : mg "law" = some (.ref a_law)
  C_Writer : Addr
  g_Writer : mg "Writer" = some (.ref C_Writer)
  cl_Writer : Cls K C_Writer
  n_Writer_full : NoAttr K C_Writer "full"
  n_Writer_begun : NoAttr K C_Writer "begun"
  n_Writer_many : NoAttr K C_Writer "many"
  K_Writer : Mk K C_Writer a_Writer_init
  M_Writer_put : Meth K C_Writer "put" a_Writer_put
  M_Writer_bits : Meth K C_Writer "bits" a_Writer_bits
  M_Writer_fill : Meth K C_Writer "fill" a_Writer_fill
  M_Writer_row : Meth K C_Writer "row" a_Writer_row
  C_ShelfError : Addr
  C_BadBits : Addr
  C_BadTable : Addr
  C_BadPaper : Addr
  g_ShelfError : mg "ShelfError" = some (.ref C_ShelfError)
  k_ShelfError : PySem.W.keepIn K (.ref C_ShelfError) = true
  b_ShelfError : PySem.W.subIn K (.ref C_ShelfError) (.type "BaseException") = some true
  t_ShelfError : PySem.W.typeIn K (.ref C_ShelfError) = some (.type "type")
  i_ShelfError : PySem.W.isClsIn K C_ShelfError = true
  rd_ShelfError : PySem.W.readsIn K C_ShelfError (.type "type") = true
  ra_ShelfError : PySem.W.specialIn K (.ref C_ShelfError) "__getattribute__" = some (some (.builtin "type.__getattribute__"))
  ri_ShelfError : PySem.W.findCls K (.ref C_ShelfError) (.type "type") "__init__" = some (.val (.builtin "ValueError.__init__"))
  g_BadBits : mg "BadBits" = some (.ref C_BadBits)
  k_BadBits : PySem.W.keepIn K (.ref C_BadBits) = true
  b_BadBits : PySem.W.subIn K (.ref C_BadBits) (.type "BaseException") = some true
  t_BadBits : PySem.W.typeIn K (.ref C_BadBits) = some (.type "type")
  i_BadBits : PySem.W.isClsIn K C_BadBits = true
  x_BadBits : PySem.W.excIn K C_BadBits [.type "ValueError", .type "Exception", .type "BaseException", .type "object"] "ValueError.__new__" = true
  gb_BadBits : PySem.W.findIn K (.ref C_BadBits) "__getattribute__" = some (some (.builtin "BaseException.__getattribute__"))
  gg_BadBits : PySem.W.findIn K (.ref C_BadBits) "__getattr__" = some none
  hd_BadBits : PySem.W.hasDictIn K C_BadBits = true
  ca_BadBits : PySem.W.findIn K (.ref C_BadBits) "__class__" = some (some (.builtin "object.__class__"))
  cn_BadBits : PySem.W.specialIn K (.builtin "object.__class__") "__get__" = some (some (.builtin "getset_descriptor.__get__"))
  ct_BadBits : PySem.W.takesIn K (.builtin "object.__class__") = some true
  cm_BadBits : PySem.W.mroIn K C_BadBits (.type "object") = some true
  xc_BadBits : ExcC K C_BadBits
  g_BadTable : mg "BadTable" = some (.ref C_BadTable)
  k_BadTable : PySem.W.keepIn K (.ref C_BadTable) = true
  b_BadTable : PySem.W.subIn K (.ref C_BadTable) (.type "BaseException") = some true
  t_BadTable : PySem.W.typeIn K (.ref C_BadTable) = some (.type "type")
  i_BadTable : PySem.W.isClsIn K C_BadTable = true
  x_BadTable : PySem.W.excIn K C_BadTable [.type "ValueError", .type "Exception", .type "BaseException", .type "object"] "ValueError.__new__" = true
  gb_BadTable : PySem.W.findIn K (.ref C_BadTable) "__getattribute__" = some (some (.builtin "BaseException.__getattribute__"))
  gg_BadTable : PySem.W.findIn K (.ref C_BadTable) "__getattr__" = some none
  hd_BadTable : PySem.W.hasDictIn K C_BadTable = true
  ca_BadTable : PySem.W.findIn K (.ref C_BadTable) "__class__" = some (some (.builtin "object.__class__"))
  cn_BadTable : PySem.W.specialIn K (.builtin "object.__class__") "__get__" = some (some (.builtin "getset_descriptor.__get__"))
  ct_BadTable : PySem.W.takesIn K (.builtin "object.__class__") = some true
  cm_BadTable : PySem.W.mroIn K C_BadTable (.type "object") = some true
  xc_BadTable : ExcC K C_BadTable
  g_BadPaper : mg "BadPaper" = some (.ref C_BadPaper)
  k_BadPaper : PySem.W.keepIn K (.ref C_BadPaper) = true
  b_BadPaper : PySem.W.subIn K (.ref C_BadPaper) (.type "BaseException") = some true
  t_BadPaper : PySem.W.typeIn K (.ref C_BadPaper) = some (.type "type")
  i_BadPaper : PySem.W.isClsIn K C_BadPaper = true
  sa_BadPaper : PySem.W.findIn K (.ref C_BadPaper) "__setattr__" = some (some (.builtin "object.__setattr__"))
  iC_BadPaper : PySem.W.findIn K (.ref C_BadPaper) "__init__" = some (some (.ref a_BadPaper_init))
  n_at_BadPaper : PySem.W.findIn K (.ref C_BadPaper) "at" = some none
  gb_BadPaper : PySem.W.findIn K (.ref C_BadPaper) "__getattribute__" = some (some (.builtin "BaseException.__getattribute__"))
  gg_BadPaper : PySem.W.findIn K (.ref C_BadPaper) "__getattr__" = some none
  hd_BadPaper : PySem.W.hasDictIn K C_BadPaper = true
  ca_BadPaper : PySem.W.findIn K (.ref C_BadPaper) "__class__" = some (some (.builtin "object.__class__"))
  cn_BadPaper : PySem.W.specialIn K (.builtin "object.__class__") "__get__" = some (some (.builtin "getset_descriptor.__get__"))
  ct_BadPaper : PySem.W.takesIn K (.builtin "object.__class__") = some true
  cm_BadPaper : PySem.W.mroIn K C_BadPaper (.type "object") = some true
  xc_BadPaper : ExcC K C_BadPaper
  ox_BadPaper : OexC K C_BadPaper
  tI_BadPaper : PySem.W.typeIn K (.ref a_BadPaper_init) = some (.type "function")
  z_all : mg "all" = none
  z_bool : mg "bool" = none
  z_enumerate : mg "enumerate" = none
  z_int : mg "int" = none
  z_isinstance : mg "isinstance" = none
  z_len : mg "len" = none
  z_list : mg "list" = none
  z_max : mg "max" = none
  z_min : mg "min" = none
  z_range : mg "range" = none
  z_sorted : mg "sorted" = none
  z_str : mg "str" = none
  z_sum : mg "sum" = none
  z_tuple : mg "tuple" = none
  z_zip : mg "zip" = none
  u_MOST_BITS : Value
  m_MOST_BITS : mg "MOST_BITS" = some u_MOST_BITS
  r_MOST_BITS : RelV (.int 64) u_MOST_BITS
  u_LEAST : Value
  m_LEAST : mg "LEAST" = some u_LEAST
  r_LEAST : RelV (.int 3) u_LEAST
  u_MOST : Value
  m_MOST : mg "MOST" = some u_MOST
  r_MOST : RelV (.int 16) u_MOST
  u_BEGIN : Value
  m_BEGIN : mg "BEGIN" = some u_BEGIN
  r_BEGIN : RelV (.int 65535) u_BEGIN
  u_FEED : Value
  m_FEED : mg "FEED" = some u_FEED
  r_FEED : RelV (.int 4129) u_FEED
  u_TOP : Value
  m_TOP : mg "TOP" = some u_TOP
  r_TOP : RelV (.int 32768) u_TOP
  u_MOST_SYMBOLS : Value
  m_MOST_SYMBOLS : mg "MOST_SYMBOLS" = some u_MOST_SYMBOLS
  r_MOST_SYMBOLS : RelV (.int 64) u_MOST_SYMBOLS
  u_MOST_COUNT : Value
  m_MOST_COUNT : mg "MOST_COUNT" = some u_MOST_COUNT
  r_MOST_COUNT : RelV (.int 1000) u_MOST_COUNT
  u_LONGEST : Value
  m_LONGEST : mg "LONGEST" = some u_LONGEST
  r_LONGEST : RelV (.int 15) u_LONGEST
  u_MARK : Addr
  m_MARK : mg "MARK" = some (.ref u_MARK)
  r_MARK : Y.KL K u_MARK (List.map V.int [165, 90])
  u_SYMBOLS : Value
  m_SYMBOLS : mg "SYMBOLS" = some u_SYMBOLS
  r_SYMBOLS : RelV (.int 33) u_SYMBOLS
  u_BACK : Value
  m_BACK : mg "BACK" = some u_BACK
  r_BACK : RelV (.int 32) u_BACK
  u_TABLE_BYTES : Value
  m_TABLE_BYTES : mg "TABLE_BYTES" = some u_TABLE_BYTES
  r_TABLE_BYTES : RelV (.int 17) u_TABLE_BYTES
  u_PLAIN : Value
  m_PLAIN : mg "PLAIN" = some u_PLAIN
  r_PLAIN : RelV (.int 0) u_PLAIN
  u_PACKED : Value
  m_PACKED : mg "PACKED" = some u_PACKED
  r_PACKED : RelV (.int 1) u_PACKED
def fs_Writer (x0 x1 x2 : V) : List (Str × V) := [("full", x0), ("begun", x1), ("many", x2)]
theorem rd_Writer_full {K : PySem.W.Frag} {mg : Str → Option Value} (T : Tx K mg) {H : Hp} {p dx : Addr} {x0 x1 x2 : V} (ho : H p = some (.ins T.C_Writer dx (fs_Writer x0 x1 x2))) {Q : VK} (h : Q x0 H) : rFld K "full" (.ref p) H Q := ⟨p, _, dx, _, _, rfl, ho, T.cl_Writer, T.n_Writer_full, lkf_hd, h⟩
theorem pt_Writer_full {x0 x1 x2 y : V} : putF "full" y (fs_Writer x0 x1 x2) = fs_Writer y x1 x2 := ptf_hd
theorem wr_Writer_full {K : PySem.W.Frag} {mg : Str → Option Value} (T : Tx K mg) {H : Hp} {p dx : Addr} {x0 x1 x2 : V} (ho : H p = some (.ins T.C_Writer dx (fs_Writer x0 x1 x2))) {y : V} {R : Hp → Prop} (h : R (upd H p (.ins T.C_Writer dx (fs_Writer y x1 x2)))) : wFld K "full" (.ref p) y H R := ⟨p, _, dx, _, rfl, ho, T.cl_Writer, T.n_Writer_full, (by show 3 < 1000; decide), by rw [pt_Writer_full]; exact h⟩
theorem ba_Writer_full {K : PySem.W.Frag} {mg : Str → Option Value} (T : Tx K mg) {H : Hp} {p dx : Addr} {x0 x1 x2 : V} (ho : H p = some (.ins T.C_Writer dx (fs_Writer x0 x1 x2))) {R : Addr → Addr → V → Hp → Prop} (h : R p T.C_Writer x0 H) : bFld K "full" (.ref p) H R := ⟨p, _, dx, _, _, rfl, ho, T.cl_Writer, T.n_Writer_full, lkf_hd, h⟩
theorem aw_Writer_full {K : PySem.W.Frag} {mg : Str → Option Value} (T : Tx K mg) {H : Hp} {p dx : Addr} {x0 x1 x2 : V} (ho : H p = some (.ins T.C_Writer dx (fs_Writer x0 x1 x2))) {y : V} {R : Hp → Prop} (h : R (upd H p (.ins T.C_Writer dx (fs_Writer y x1 x2)))) : aFld p T.C_Writer "full" y H R := ⟨dx, _, ho, (by show 3 < 1000; decide), by rw [pt_Writer_full]; exact h⟩
theorem iw_Writer_full {K : PySem.W.Frag} {mg : Str → Option Value} (T : Tx K mg) {H : Hp} {p dx : Addr} { y : V} (ho : H p = some (.ins T.C_Writer dx [])) {R : Hp → Prop} (h : R (upd H p (.ins T.C_Writer dx [("full", y)]))) : wFld K "full" (.ref p) y H R := ⟨p, _, dx, _, rfl, ho, T.cl_Writer, T.n_Writer_full, (by show 0 < 1000; decide), by rw [show putF "full" y ([] : List (Str × V)) = ([("full", y)] : List (Str × V)) from ptf_nil]; exact h⟩
theorem rd_Writer_begun {K : PySem.W.Frag} {mg : Str → Option Value} (T : Tx K mg) {H : Hp} {p dx : Addr} {x0 x1 x2 : V} (ho : H p = some (.ins T.C_Writer dx (fs_Writer x0 x1 x2))) {Q : VK} (h : Q x1 H) : rFld K "begun" (.ref p) H Q := ⟨p, _, dx, _, _, rfl, ho, T.cl_Writer, T.n_Writer_begun, lkf_tl (by decide +kernel) (lkf_hd), h⟩
theorem pt_Writer_begun {x0 x1 x2 y : V} : putF "begun" y (fs_Writer x0 x1 x2) = fs_Writer x0 y x2 := ptf_tl (by decide +kernel) (ptf_hd)
theorem wr_Writer_begun {K : PySem.W.Frag} {mg : Str → Option Value} (T : Tx K mg) {H : Hp} {p dx : Addr} {x0 x1 x2 : V} (ho : H p = some (.ins T.C_Writer dx (fs_Writer x0 x1 x2))) {y : V} {R : Hp → Prop} (h : R (upd H p (.ins T.C_Writer dx (fs_Writer x0 y x2)))) : wFld K "begun" (.ref p) y H R := ⟨p, _, dx, _, rfl, ho, T.cl_Writer, T.n_Writer_begun, (by show 3 < 1000; decide), by rw [pt_Writer_begun]; exact h⟩
theorem ba_Writer_begun {K : PySem.W.Frag} {mg : Str → Option Value} (T : Tx K mg) {H : Hp} {p dx : Addr} {x0 x1 x2 : V} (ho : H p = some (.ins T.C_Writer dx (fs_Writer x0 x1 x2))) {R : Addr → Addr → V → Hp → Prop} (h : R p T.C_Writer x1 H) : bFld K "begun" (.ref p) H R := ⟨p, _, dx, _, _, rfl, ho, T.cl_Writer, T.n_Writer_begun, lkf_tl (by decide +kernel) (lkf_hd), h⟩
theorem aw_Writer_begun {K : PySem.W.Frag} {mg : Str → Option Value} (T : Tx K mg) {H : Hp} {p dx : Addr} {x0 x1 x2 : V} (ho : H p = some (.ins T.C_Writer dx (fs_Writer x0 x1 x2))) {y : V} {R : Hp → Prop} (h : R (upd H p (.ins T.C_Writer dx (fs_Writer x0 y x2)))) : aFld p T.C_Writer "begun" y H R := ⟨dx, _, ho, (by show 3 < 1000; decide), by rw [pt_Writer_begun]; exact h⟩
theorem iw_Writer_begun {K : PySem.W.Frag} {mg : Str → Option Value} (T : Tx K mg) {H : Hp} {p dx : Addr} {x0 y : V} (ho : H p = some (.ins T.C_Writer dx [("full", x0)])) {R : Hp → Prop} (h : R (upd H p (.ins T.C_Writer dx [("full", x0), ("begun", y)]))) : wFld K "begun" (.ref p) y H R := ⟨p, _, dx, _, rfl, ho, T.cl_Writer, T.n_Writer_begun, (by show 1 < 1000; decide), by rw [show putF "begun" y ([("full", x0)] : List (Str × V)) = ([("full", x0), ("begun", y)] : List (Str × V)) from ptf_tl (by decide +kernel) (ptf_nil)]; exact h⟩
theorem rd_Writer_many {K : PySem.W.Frag} {mg : Str → Option Value} (T : Tx K mg) {H : Hp} {p dx : Addr} {x0 x1 x2 : V} (ho : H p = some (.ins T.C_Writer dx (fs_Writer x0 x1 x2))) {Q : VK} (h : Q x2 H) : rFld K "many" (.ref p) H Q := ⟨p, _, dx, _, _, rfl, ho, T.cl_Writer, T.n_Writer_many, lkf_tl (by decide +kernel) (lkf_tl (by decide +kernel) (lkf_hd)), h⟩
theorem pt_Writer_many {x0 x1 x2 y : V} : putF "many" y (fs_Writer x0 x1 x2) = fs_Writer x0 x1 y := ptf_tl (by decide +kernel) (ptf_tl (by decide +kernel) (ptf_hd))
theorem wr_Writer_many {K : PySem.W.Frag} {mg : Str → Option Value} (T : Tx K mg) {H : Hp} {p dx : Addr} {x0 x1 x2 : V} (ho : H p = some (.ins T.C_Writer dx (fs_Writer x0 x1 x2))) {y : V} {R : Hp → Prop} (h : R (upd H p (.ins T.C_Writer dx (fs_Writer x0 x1 y)))) : wFld K "many" (.ref p) y H R := ⟨p, _, dx, _, rfl, ho, T.cl_Writer, T.n_Writer_many, (by show 3 < 1000; decide), by rw [pt_Writer_many]; exact h⟩
theorem ba_Writer_many {K : PySem.W.Frag} {mg : Str → Option Value} (T : Tx K mg) {H : Hp} {p dx : Addr} {x0 x1 x2 : V} (ho : H p = some (.ins T.C_Writer dx (fs_Writer x0 x1 x2))) {R : Addr → Addr → V → Hp → Prop} (h : R p T.C_Writer x2 H) : bFld K "many" (.ref p) H R := ⟨p, _, dx, _, _, rfl, ho, T.cl_Writer, T.n_Writer_many, lkf_tl (by decide +kernel) (lkf_tl (by decide +kernel) (lkf_hd)), h⟩
theorem aw_Writer_many {K : PySem.W.Frag} {mg : Str → Option Value} (T : Tx K mg) {H : Hp} {p dx : Addr} {x0 x1 x2 : V} (ho : H p = some (.ins T.C_Writer dx (fs_Writer x0 x1 x2))) {y : V} {R : Hp → Prop} (h : R (upd H p (.ins T.C_Writer dx (fs_Writer x0 x1 y)))) : aFld p T.C_Writer "many" y H R := ⟨dx, _, ho, (by show 3 < 1000; decide), by rw [pt_Writer_many]; exact h⟩
theorem iw_Writer_many {K : PySem.W.Frag} {mg : Str → Option Value} (T : Tx K mg) {H : Hp} {p dx : Addr} {x0 x1 y : V} (ho : H p = some (.ins T.C_Writer dx [("full", x0), ("begun", x1)])) {R : Hp → Prop} (h : R (upd H p (.ins T.C_Writer dx [("full", x0), ("begun", x1), ("many", y)]))) : wFld K "many" (.ref p) y H R := ⟨p, _, dx, _, rfl, ho, T.cl_Writer, T.n_Writer_many, (by show 2 < 1000; decide), by rw [show putF "many" y ([("full", x0), ("begun", x1)] : List (Str × V)) = ([("full", x0), ("begun", x1), ("many", y)] : List (Str × V)) from ptf_tl (by decide +kernel) (ptf_tl (by decide +kernel) (ptf_nil))]; exact h⟩
theorem mt_Writer_put {K : PySem.W.Frag} {mg : Str → Option Value} (T : Tx K mg) {H : Hp} {p dx : Addr} {x0 x1 x2 : V} (ho : H p = some (.ins T.C_Writer dx (fs_Writer x0 x1 x2))) {R : V → Hp → Prop} (h : R (.ref p) H) : rMeth T.C_Writer "put" R (.ref p) H := z_methR ho (lkf_tl (by decide +kernel) (lkf_tl (by decide +kernel) (lkf_tl (by decide +kernel) (lkf_nil)))) h
theorem mt_Writer_bits {K : PySem.W.Frag} {mg : Str → Option Value} (T : Tx K mg) {H : Hp} {p dx : Addr} {x0 x1 x2 : V} (ho : H p = some (.ins T.C_Writer dx (fs_Writer x0 x1 x2))) {R : V → Hp → Prop} (h : R (.ref p) H) : rMeth T.C_Writer "bits" R (.ref p) H := z_methR ho (lkf_tl (by decide +kernel) (lkf_tl (by decide +kernel) (lkf_tl (by decide +kernel) (lkf_nil)))) h
theorem mt_Writer_fill {K : PySem.W.Frag} {mg : Str → Option Value} (T : Tx K mg) {H : Hp} {p dx : Addr} {x0 x1 x2 : V} (ho : H p = some (.ins T.C_Writer dx (fs_Writer x0 x1 x2))) {R : V → Hp → Prop} (h : R (.ref p) H) : rMeth T.C_Writer "fill" R (.ref p) H := z_methR ho (lkf_tl (by decide +kernel) (lkf_tl (by decide +kernel) (lkf_tl (by decide +kernel) (lkf_nil)))) h
theorem mt_Writer_row {K : PySem.W.Frag} {mg : Str → Option Value} (T : Tx K mg) {H : Hp} {p dx : Addr} {x0 x1 x2 : V} (ho : H p = some (.ins T.C_Writer dx (fs_Writer x0 x1 x2))) {R : V → Hp → Prop} (h : R (.ref p) H) : rMeth T.C_Writer "row" R (.ref p) H := z_methR ho (lkf_tl (by decide +kernel) (lkf_tl (by decide +kernel) (lkf_tl (by decide +kernel) (lkf_nil)))) h
local macro_rules | `(tactic| walk_at "z1") => `(tactic| first
  | ((with_reducible show Z.rFld _ _ _ _ _); first
    | ((with_reducible apply rd_Writer_full); (focus (· walk_at "lk")))
    | ((with_reducible apply rd_Writer_begun); (focus (· walk_at "lk")))
    | ((with_reducible apply rd_Writer_many); (focus (· walk_at "lk"))))
  | ((with_reducible show Z.wFld _ _ _ _ _ _); first
    | ((with_reducible apply wr_Writer_full); (focus (· walk_at "lk")))
    | ((with_reducible apply iw_Writer_full); (focus (· walk_at "lk")))
    | ((with_reducible apply wr_Writer_begun); (focus (· walk_at "lk")))
    | ((with_reducible apply iw_Writer_begun); (focus (· walk_at "lk")))
    | ((with_reducible apply wr_Writer_many); (focus (· walk_at "lk")))
    | ((with_reducible apply iw_Writer_many); (focus (· walk_at "lk"))))
  | ((with_reducible show Z.bFld _ _ _ _ _); first
    | ((with_reducible apply ba_Writer_full); (focus (· walk_at "lk")))
    | ((with_reducible apply ba_Writer_begun); (focus (· walk_at "lk")))
    | ((with_reducible apply ba_Writer_many); (focus (· walk_at "lk"))))
  | ((with_reducible show Z.aFld _ _ _ _ _ _); first
    | ((with_reducible apply aw_Writer_full); (focus (· walk_at "lk")))
    | ((with_reducible apply aw_Writer_begun); (focus (· walk_at "lk")))
    | ((with_reducible apply aw_Writer_many); (focus (· walk_at "lk"))))
  | ((with_reducible show Z.rMeth _ _ _ _ _); first
    | ((with_reducible apply mt_Writer_put); (focus (· walk_at "lk")))
    | ((with_reducible apply mt_Writer_bits); (focus (· walk_at "lk")))
    | ((with_reducible apply mt_Writer_fill); (focus (· walk_at "lk")))
    | ((with_reducible apply mt_Writer_row); (focus (· walk_at "lk")))))
def ctT {K : PySem.W.Frag} {mg : Str → Option Value} (T : Tx K mg) : Ct := ⟨fun n => match n with
  | 0 => T.C_ShelfError
  | 1 => T.C_BadBits
  | 2 => T.C_BadTable
  | 3 => T.C_BadPaper
  | 4 => T.C_Writer
  | _ => 0, none, none⟩
theorem ok_BadPaper_init {P : Program} {w : World} {K : PySem.W.Frag} {mg : Str → Option Value} {base : Heap} (T : Tx K mg) : FnOk P w K mg base CX0 1 T.a_BadPaper_init T.d_BadPaper_init ["self", "words", "at"] (spA K T.C_BadPaper "at") :=
  T.F_BadPaper_init.ok sc_BadPaper_init (fun vs H Q E h => spA_len h) (fun cdv A outer s H vs Q E hr h => ⟨_, (pss_cons (ps_expr (pe_clsinit (by rfl) T.g_ShelfError ⟨T.rd_ShelfError, T.ra_ShelfError⟩ T.ri_ShelfError (pa_cons (pv 0) (pa_cons (pv 1) pa_nil)))) (pss_one (ps_ost (pv 0) (pv 2)))), initA h⟩)
@[irreducible] noncomputable def b_l_draw : Ms :=
  (mRet (mLst (vCons (mOp fMul (mOp (fI CDiv fun i j => .int (i / j)) (mName 0) (mC (.int 2))) (mOp (fI0 fun i j => .int (i - j)) (mC (.int 1)) (mOp (fI (fun _ j => 0 < j) fun i j => .int (i % j)) (mName 0) (mC (.int 2))))) (vCons (mName 0) vNil))))
noncomputable def m_l_draw : Mf := mFn 1 1 b_l_draw
theorem ok_l_draw {P : Program} {w : World} {K : PySem.W.Frag} {mg : Str → Option Value} {base : Heap} (T : Tx K mg) : FnOk P w K mg base CX0 1 T.a_l_draw T.d_l_draw ["_law_cell"] (spM K (ctT T) m_l_draw) :=
  T.F_l_draw.ok sc_l_draw (fun vs H Q E h => sp_len h) (fun cdv A outer s H vs Q E hr h => ⟨_, (pss_one (ps_ret (pe_lst (pa_cons (pe_op op_mulZ (pe_op op_fdiv (pv 0) pe_int) (pe_op op_sub pe_int (pe_op op_mod (pv 0) pe_int))) (pa_cons (pv 0) pa_nil))))),
    fn_run (np := 1) (N := ["_law_cell"]) (body := b_l_draw) (by unfold b_l_draw; exact (sv_ret (ei_lst (ev_cons (ei_op j_mul (ei_op (j_I fun _ _ => cr_int) ei_var (ei_c cr_int)) (ei_op (j_I0 fun _ _ => cr_int) (ei_c cr_int) (ei_op (j_I fun _ _ => cr_int) ei_var (ei_c cr_int)))) (ev_cons ei_var ev_nil))))) h⟩)
@[irreducible] noncomputable def b_l_bits : Ms :=
  (mSeq (mAsg 2 (mC (.str (Str.ofString ""))))
  (mSeq (mFor (mRng1 (aCons (mName 1) aNil)) (tgN 3) (mAsg 2 (mOp fAdd (mCB fStr (aCons (mOp (fI0 fun i j => .int (Builtin.bitAnd i j)) (mOp (fI (fun _ j => 0 ≤ j) fun i j => .int (i / 2 ^ j.toNat)) (mName 0) (mName 3)) (mC (.int 1))) aNil)) (mName 2))))
  (mRet (mName 2))))
noncomputable def m_l_bits : Mf := mFn 2 4 b_l_bits
theorem ok_l_bits {P : Program} {w : World} {K : PySem.W.Frag} {mg : Str → Option Value} {base : Heap} (T : Tx K mg) : FnOk P w K mg base CX0 1 T.a_l_bits T.d_l_bits ["_law_number", "_law_many"] (spM K (ctT T) m_l_bits) :=
  T.F_l_bits.ok sc_l_bits (fun vs H Q E h => sp_len h) (fun cdv A outer s H vs Q E hr h => ⟨_, (pss_cons (ps_set (i := 2) sc_l_bits.nd rfl (by first | exact Or.inl rfl | exact Or.inr rfl) pe_str)
      (pss_cons (ps_for PassesOwn.never rfl (pi_range1 rfl T.z_range (pa_cons (pv 1) pa_nil)) (pg_name (i := 3) sc_l_bits.nd rfl (by first | exact Or.inl rfl | exact Or.inr rfl)) (pss_one (ps_set (i := 2) sc_l_bits.nd rfl (by first | exact Or.inl rfl | exact Or.inr rfl) (pe_op (op_addZ (K := K) rfl) (pe_callTy (call_strY) (by rfl) T.z_str (by decide +kernel) (pa_cons (pe_op op_and (pe_op op_shr (pv 0) (pv 3)) pe_int) pa_nil)) (pv 2)))))
      (pss_one (ps_ret (pv 2))))),
    fn_run (np := 2) (N := ["_law_number", "_law_many", "_law_bits_here", "_law_k"]) (body := b_l_bits) (by unfold b_l_bits; exact (sv_seq (sv_asg (ei_c cr_str))
      (sv_seq (sv_for (jw_rng1 (ea_cons ei_var ea_nil)) sg_name (sv_asg (ei_op j_add (ei_cb jb_str (ea_cons (ei_op (j_I0 fun _ _ => cr_int) (ei_op (j_I fun _ _ => cr_int) ei_var ei_var) (ei_c cr_int)) ea_nil)) ei_var)))
      (sv_ret ei_var)))) h⟩)
@[irreducible] noncomputable def b_l_bytes : Ms :=
  (mSeq (mAsg 0 (mOp fAdd (mName 0) (mOp fMulS (mC (.str (Str.ofString "0"))) (mOp (fI (fun _ j => 0 < j) fun i j => .int (i % j)) (mOp (fI0 fun i j => .int (i - j)) (mC (.int 0)) (mCB fLen (aCons (mName 0) aNil))) (mC (.int 8))))))
  (mSeq (mAsg 1 (mLst vNil))
  (mSeq (mFor (mRng3 (aCons (mC (.int 0)) (aCons (mCB fLen (aCons (mName 0) aNil)) (aCons (mC (.int 8)) aNil)))) (tgN 2) (mSeq (mAsg 3 (mC (.int 0)))
  (mSeq (mFor (mWS (mSl (mName 0) (oSm (mName 2)) (oSm (mOp fAdd (mName 2) (mC (.int 8)))))) (tgN 4) (mAsg 3 (mOp fAdd (mOp fMul (mC (.int 2)) (mName 3)) (mCB fInt (aCons (mOp fEq (mName 4) (mC (.str (Str.ofString "1")))) aNil)))))
  (mDrop (mBM fApp (mName 1) (vCons (mName 3) vNil))))))
  (mRet (mName 1)))))
noncomputable def m_l_bytes : Mf := mFn 1 5 b_l_bytes
theorem ok_l_bytes {P : Program} {w : World} {K : PySem.W.Frag} {mg : Str → Option Value} {base : Heap} (T : Tx K mg) : FnOk P w K mg base CX0 1 T.a_l_bytes T.d_l_bytes ["_law_bits_here"] (spM K (ctT T) m_l_bytes) :=
  T.F_l_bytes.ok sc_l_bytes (fun vs H Q E h => sp_len h) (fun cdv A outer s H vs Q E hr h => ⟨_, (pss_cons (ps_set (i := 0) sc_l_bytes.nd rfl (by first | exact Or.inl rfl | exact Or.inr rfl) (pe_op (op_addZ (K := K) rfl) (pv 0) (pe_op op_mulS pe_str (pe_op op_mod (pe_op op_sub pe_int (pe_callB (call_lenY (K := K) rfl) (by rfl) T.z_len PySem.boot_len (pa_cons (pv 0) pa_nil))) pe_int))))
      (pss_cons (ps_set (i := 1) sc_l_bytes.nd rfl (by first | exact Or.inl rfl | exact Or.inr rfl) (pe_lst pa_nil))
      (pss_cons (ps_for PassesOwn.never rfl (pi_range3 rfl T.z_range (pa_cons pe_int (pa_cons (pe_callB (call_lenY (K := K) rfl) (by rfl) T.z_len PySem.boot_len (pa_cons (pv 0) pa_nil)) (pa_cons pe_int pa_nil)))) (pg_name (i := 2) sc_l_bytes.nd rfl (by first | exact Or.inl rfl | exact Or.inr rfl)) (pss_cons (ps_set (i := 3) sc_l_bytes.nd rfl (by first | exact Or.inl rfl | exact Or.inr rfl) pe_int)
      (pss_cons (ps_for PassesOwn.never rfl (pi_str (pe_slice (sl_Z (K := K) rfl) (pv 0) (po_some (pv 2)) (po_some (pe_op (op_addZ (K := K) rfl) (pv 2) pe_int)))) (pg_name (i := 4) sc_l_bytes.nd rfl (by first | exact Or.inl rfl | exact Or.inr rfl)) (pss_one (ps_set (i := 3) sc_l_bytes.nd rfl (by first | exact Or.inl rfl | exact Or.inr rfl) (pe_op (op_addZ (K := K) rfl) (pe_op op_mulZ pe_int (pv 3)) (pe_callTy (call_intY) (by rfl) T.z_int (by decide +kernel) (pa_cons (pe_cmpR (op_eqZ (K := K) rfl hr.units) (pv 4) pe_str (nomark _)) pa_nil))))))
      (pss_one (ps_expr (pe_bmZ (K := K) rfl PySem.F.plainAttrs_list PySem.F.slot_list_append PySem.F.type_list_append mt_append (pv 1) (pa_cons (pv 3) pa_nil)))))))
      (pss_one (ps_ret (pv 1)))))),
    fn_run (np := 1) (N := ["_law_bits_here", "_law_found", "_law_at", "_law_number", "_law_bit"]) (body := b_l_bytes) (by unfold b_l_bytes; exact (sv_seq (sv_asg (ei_op j_add ei_var (ei_op j_mulS (ei_c cr_str) (ei_op (j_I fun _ _ => cr_int) (ei_op (j_I0 fun _ _ => cr_int) (ei_c cr_int) (ei_cb jb_len (ea_cons ei_var ea_nil))) (ei_c cr_int)))))
      (sv_seq (sv_asg (ei_lst ev_nil))
      (sv_seq (sv_for (jw_rng3 (ea_cons (ei_c cr_int) (ea_cons (ei_cb jb_len (ea_cons ei_var ea_nil)) (ea_cons (ei_c cr_int) ea_nil)))) sg_name (sv_seq (sv_asg (ei_c cr_int))
      (sv_seq (sv_for (jw_str (ei_sl ei_var (eo_sm ei_var) (eo_sm (ei_op j_add ei_var (ei_c cr_int))))) sg_name (sv_asg (ei_op j_add (ei_op j_mul (ei_c cr_int) ei_var) (ei_cb jb_int (ea_cons (ei_op j_eq ei_var (ei_c cr_str)) ea_nil)))))
      (sv_drop (ei_bm jm_app ei_var (ev_cons ei_var ev_nil))))))
      (sv_ret ei_var))))) h⟩)
@[irreducible] noncomputable def b_l_symbols : Ms :=
  (mSeq (mAsg 1 (mLst vNil))
  (mSeq (mFor (mWL (mName 0)) (tgN 2) (mDrop (mBM fApp (mName 1) (vCons (mOp fIxY (mLst (vCons (mC (.int 32)) (vCons (mOp (fI CDiv fun i j => .int (i / j)) (mOp fIxY (mName 2) (mC (.int 1))) (mC (.int 8))) vNil))) (mCB fInt (aCons (mOp fEq (mOp fIxY (mName 2) (mC (.int 0))) (mC (.str (Str.ofString "byte")))) aNil))) vNil))))
  (mRet (mName 1))))
noncomputable def m_l_symbols : Mf := mFn 1 3 b_l_symbols
theorem ok_l_symbols {P : Program} {w : World} {K : PySem.W.Frag} {mg : Str → Option Value} {base : Heap} (T : Tx K mg) : FnOk P w K mg base CX0 1 T.a_l_symbols T.d_l_symbols ["_law_tokens"] (spM K (ctT T) m_l_symbols) :=
  T.F_l_symbols.ok sc_l_symbols (fun vs H Q E h => sp_len h) (fun cdv A outer s H vs Q E hr h => ⟨_, (pss_cons (ps_set (i := 1) sc_l_symbols.nd rfl (by first | exact Or.inl rfl | exact Or.inr rfl) (pe_lst pa_nil))
      (pss_cons (ps_for PassesOwn.never rfl (pi_listZ (K := K) rfl (pv 0)) (pg_name (i := 2) sc_l_symbols.nd rfl (by first | exact Or.inl rfl | exact Or.inr rfl)) (pss_one (ps_expr (pe_bmZ (K := K) rfl PySem.F.plainAttrs_list PySem.F.slot_list_append PySem.F.type_list_append mt_append (pv 1) (pa_cons (pe_ix (ix_Y (K := K) rfl (hu_of hr)) (pe_lst (pa_cons pe_int (pa_cons (pe_op op_fdiv (pe_ix (ix_Y (K := K) rfl (hu_of hr)) (pv 2) pe_int (fun _ _ => rfl)) pe_int) pa_nil))) (pe_callTy (call_intY) (by rfl) T.z_int (by decide +kernel) (pa_cons (pe_cmpR (op_eqZ (K := K) rfl hr.units) (pe_ix (ix_Y (K := K) rfl (hu_of hr)) (pv 2) pe_int (fun _ _ => rfl)) pe_str (nomark _)) pa_nil)) (fun _ _ => rfl)) pa_nil)))))
      (pss_one (ps_ret (pv 1))))),
    fn_run (np := 1) (N := ["_law_tokens", "_law_found", "_law_token"]) (body := b_l_symbols) (by unfold b_l_symbols; exact (sv_seq (sv_asg (ei_lst ev_nil))
      (sv_seq (sv_for (jw_list ei_var) sg_name (sv_drop (ei_bm jm_app ei_var (ev_cons (ei_op j_ixY (ei_lst (ev_cons (ei_c cr_int) (ev_cons (ei_op (j_I fun _ _ => cr_int) (ei_op j_ixY ei_var (ei_c cr_int)) (ei_c cr_int)) ev_nil))) (ei_cb jb_int (ea_cons (ei_op j_eq (ei_op j_ixY ei_var (ei_c cr_int)) (ei_c cr_str)) ea_nil))) ev_nil))))
      (sv_ret ei_var)))) h⟩)
@[irreducible] noncomputable def b_run_at : Ms :=
  (mSeq (mAsg 3 (mC (.int 0)))
  (mSeq (mWh (mAnd (mBl (mOp (fI0 fun i j => .bl (decide (i < j))) (mName 3) (mC (.int 16)))) (mAnd (mBl (mOp (fI0 fun i j => .bl (decide (i < j))) (mOp fAdd (mName 1) (mName 3)) (mCB fLen (aCons (mName 0) aNil)))) (mBl (mOp fEq (mOp fIxY (mName 0) (mOp fAdd (mName 1) (mName 3))) (mOp fIxY (mName 0) (mOp (fI0 fun i j => .int (i - j)) (mOp fAdd (mName 1) (mName 3)) (mName 2))))))) (mAug 3 (fun i j => i + j) (mC (.int 1))))
  (mRet (mName 3))))
noncomputable def m_run_at : Mf := mFn 3 4 b_run_at
theorem ok_run_at {P : Program} {w : World} {K : PySem.W.Frag} {mg : Str → Option Value} {base : Heap} (T : Tx K mg) : FnOk P w K mg base CX0 1 T.a_run_at T.d_run_at ["row", "place", "distance"] (spM K (ctT T) m_run_at) :=
  T.F_run_at.ok sc_run_at (fun vs H Q E h => sp_len h) (fun cdv A outer s H vs Q E hr h => ⟨_, (pss_cons (ps_set (i := 3) sc_run_at.nd rfl (by first | exact Or.inl rfl | exact Or.inr rfl) pe_int)
      (pss_cons (ps_while PassesOwn.never (PW.pt (pw_and (pt_cmpR op_lt (pv 3) (pe_glob rfl T.m_MOST T.r_MOST) (nomark _)) (pw_and (pt_cmpR op_lt (pe_op (op_addZ (K := K) rfl) (pv 1) (pv 3)) (pe_callB (call_lenY (K := K) rfl) (by rfl) T.z_len PySem.boot_len (pa_cons (pv 0) pa_nil)) (nomark _)) (pw_and1 (pt_cmpR (op_eqZ (K := K) rfl hr.units) (pe_ix (ix_Y (K := K) rfl (hu_of hr)) (pv 0) (pe_op (op_addZ (K := K) rfl) (pv 1) (pv 3)) (fun _ _ => rfl)) (pe_ix (ix_Y (K := K) rfl (hu_of hr)) (pv 0) (pe_op op_sub (pe_op (op_addZ (K := K) rfl) (pv 1) (pv 3)) (pv 2)) (fun _ _ => rfl)) (nomark _)))))) (pss_one (ps_aug (i := 3) sc_run_at.nd rfl (by first | exact Or.inl rfl | exact Or.inr rfl) pe_int ip_add)))
      (pss_one (ps_ret (pv 3))))),
    fn_run (np := 3) (N := ["row", "place", "distance", "many"]) (body := b_run_at) (by unfold b_run_at; exact (sv_seq (sv_asg (ei_c cr_int))
      (sv_seq (sv_while (et_and (et_tst (ei_op (j_I0 fun _ _ => cr_bl) ei_var (ei_c cr_int))) (et_and (et_tst (ei_op (j_I0 fun _ _ => cr_bl) (ei_op j_add ei_var ei_var) (ei_cb jb_len (ea_cons ei_var ea_nil)))) (et_tst (ei_op j_eq (ei_op j_ixY ei_var (ei_op j_add ei_var ei_var)) (ei_op j_ixY ei_var (ei_op (j_I0 fun _ _ => cr_int) (ei_op j_add ei_var ei_var) ei_var)))))) (sv_aug (ei_c cr_int)))
      (sv_ret ei_var)))) h⟩)
@[irreducible] noncomputable def b_best_back : Ms :=
  (mSeq (mAsg 3 (mTup (vCons (mC (.int 0)) (vCons (mC (.int 0)) vNil))))
  (mSeq (mFor (mRng2 (aCons (mC (.int 1)) (aCons (mOp fAdd (mCB (fI2 min) (aCons (mName 2) (aCons (mName 1) aNil))) (mC (.int 1))) aNil))) (tgN 4) (mSeq (mAsg 5 (mCallN m_run_at (vCons (mName 0) (vCons (mName 1) (vCons (mName 4) vNil)))))
  (mIfS (mBl (mOp (fI0 fun i j => .bl (decide (j < i))) (mName 5) (mOp fIxY (mName 3) (mC (.int 1))))) (mAsg 3 (mTup (vCons (mName 4) (vCons (mName 5) vNil)))) mNext)))
  (mRet (mName 3))))
noncomputable def m_best_back : Mf := mFn 3 6 b_best_back
theorem ok_best_back {P : Program} {w : World} {K : PySem.W.Frag} {mg : Str → Option Value} {base : Heap} (T : Tx K mg) : FnOk P w K mg base CX0 2 T.a_best_back T.d_best_back ["row", "place", "window"] (spM K (ctT T) m_best_back) :=
  T.F_best_back.ok sc_best_back (fun vs H Q E h => sp_len h) (fun cdv A outer s H vs Q E hr h => ⟨_, (pss_cons (ps_set (i := 3) sc_best_back.nd rfl (by first | exact Or.inl rfl | exact Or.inr rfl) (pe_tup (pa_cons pe_int (pa_cons pe_int pa_nil))))
      (pss_cons (ps_for PassesOwn.never rfl (pi_range2 rfl T.z_range (pa_cons pe_int (pa_cons (pe_op (op_addZ (K := K) rfl) (pe_callB (call_min2Z rfl) (by rfl) T.z_min (by decide +kernel) (pa_cons (pv 2) (pa_cons (pv 1) pa_nil))) pe_int) pa_nil))) (pg_name (i := 4) sc_best_back.nd rfl (by first | exact Or.inl rfl | exact Or.inr rfl)) (pss_cons (ps_set (i := 5) sc_best_back.nd rfl (by first | exact Or.inl rfl | exact Or.inr rfl) (pe_callZ (ok_run_at T) (hr.mono (by decide)) (by rfl) T.g_run_at T.F_run_at.kp T.b_run_at pass0 (pa_cons (pv 0) (pa_cons (pv 1) (pa_cons (pv 4) pa_nil)))))
      (pss_one (ps_if (pt_cmpR op_gt (pv 5) (pe_ix (ix_Y (K := K) rfl (hu_of hr)) (pv 3) pe_int (fun _ _ => rfl)) (nomark _)) (pss_one (ps_set (i := 3) sc_best_back.nd rfl (by first | exact Or.inl rfl | exact Or.inr rfl) (pe_tup (pa_cons (pv 4) (pa_cons (pv 5) pa_nil))))) pss_nil))))
      (pss_one (ps_ret (pv 3))))),
    fn_run (np := 3) (N := ["row", "place", "window", "best", "distance", "many"]) (body := b_best_back) (by unfold b_best_back; exact (sv_seq (sv_asg (ei_tup (ev_cons (ei_c cr_int) (ev_cons (ei_c cr_int) ev_nil))))
      (sv_seq (sv_for (jw_rng2 (ea_cons (ei_c cr_int) (ea_cons (ei_op j_add (ei_cb jb_min2 (ea_cons ei_var (ea_cons ei_var ea_nil))) (ei_c cr_int)) ea_nil))) sg_name (sv_seq (sv_asg (ei_callN (ev_cons ei_var (ev_cons ei_var (ev_cons ei_var ev_nil)))))
      (sv_if (et_tst (ei_op (j_I0 fun _ _ => cr_bl) ei_var (ei_op j_ixY ei_var (ei_c cr_int)))) (sv_asg (ei_tup (ev_cons ei_var (ev_cons ei_var ev_nil)))) sv_next)))
      (sv_ret ei_var)))) h⟩)
@[irreducible] noncomputable def b_found_in : Ms :=
  (mSeq (mAsg 2 (mLst vNil))
  (mSeq (mAsg 3 (mC (.int 0)))
  (mSeq (mWh (mBl (mOp (fI0 fun i j => .bl (decide (i < j))) (mName 3) (mCB fLen (aCons (mName 0) aNil)))) (mSeq (mAsgT (tgT 2 (tgCons (tgN 4) (tgCons (tgN 5) tgNil))) (mCallN m_best_back (vCons (mName 0) (vCons (mName 3) (vCons (mName 1) vNil)))))
  (mIfS (mBl (mOp (fI0 fun i j => .bl (decide (i < j))) (mName 5) (mC (.int 3)))) (mSeq (mDrop (mBM fApp (mName 2) (vCons (mTup (vCons (mC (.str (Str.ofString "byte"))) (vCons (mOp fIxY (mName 0) (mName 3)) vNil))) vNil)))
  (mAug 3 (fun i j => i + j) (mC (.int 1)))) (mSeq (mDrop (mBM fApp (mName 2) (vCons (mTup (vCons (mC (.str (Str.ofString "back"))) (vCons (mName 4) (vCons (mName 5) vNil)))) vNil)))
  (mAug 3 (fun i j => i + j) (mName 5))))))
  (mRet (mName 2)))))
noncomputable def m_found_in : Mf := mFn 2 6 b_found_in
theorem ok_found_in {P : Program} {w : World} {K : PySem.W.Frag} {mg : Str → Option Value} {base : Heap} (T : Tx K mg) : FnOk P w K mg base CX0 3 T.a_found_in T.d_found_in ["row", "window"] (spM K (ctT T) m_found_in) :=
  T.F_found_in.ok sc_found_in (fun vs H Q E h => sp_len h) (fun cdv A outer s H vs Q E hr h => ⟨_, (pss_cons (ps_set (i := 2) sc_found_in.nd rfl (by first | exact Or.inl rfl | exact Or.inr rfl) (pe_lst pa_nil))
      (pss_cons (ps_set (i := 3) sc_found_in.nd rfl (by first | exact Or.inl rfl | exact Or.inr rfl) pe_int)
      (pss_cons (ps_while PassesOwn.never (pt_cmpR op_lt (pv 3) (pe_callB (call_lenY (K := K) rfl) (by rfl) T.z_len PySem.boot_len (pa_cons (pv 0) pa_nil)) (nomark _)) (pss_cons (ps_asg (pe_callZ (ok_best_back T) (hr.mono (by decide)) (by rfl) T.g_best_back T.F_best_back.kp T.b_best_back pass0 (pa_cons (pv 0) (pa_cons (pv 3) (pa_cons (pv 1) pa_nil)))) (pg_tupZ (K := K) (n := 2) rfl rfl (pgs_cons (pg_name (i := 4) sc_found_in.nd rfl (by first | exact Or.inl rfl | exact Or.inr rfl)) (pgs_cons (pg_name (i := 5) sc_found_in.nd rfl (by first | exact Or.inl rfl | exact Or.inr rfl)) pgs_nil))))
      (pss_one (ps_if (pt_cmpR op_lt (pv 5) (pe_glob rfl T.m_LEAST T.r_LEAST) (nomark _)) (pss_cons (ps_expr (pe_bmZ (K := K) rfl PySem.F.plainAttrs_list PySem.F.slot_list_append PySem.F.type_list_append mt_append (pv 2) (pa_cons (pe_tup (pa_cons pe_str (pa_cons (pe_ix (ix_Y (K := K) rfl (hu_of hr)) (pv 0) (pv 3) (fun _ _ => rfl)) pa_nil))) pa_nil)))
      (pss_one (ps_aug (i := 3) sc_found_in.nd rfl (by first | exact Or.inl rfl | exact Or.inr rfl) pe_int ip_add))) (pss_cons (ps_expr (pe_bmZ (K := K) rfl PySem.F.plainAttrs_list PySem.F.slot_list_append PySem.F.type_list_append mt_append (pv 2) (pa_cons (pe_tup (pa_cons pe_str (pa_cons (pv 4) (pa_cons (pv 5) pa_nil)))) pa_nil)))
      (pss_one (ps_aug (i := 3) sc_found_in.nd rfl (by first | exact Or.inl rfl | exact Or.inr rfl) (pv 5) ip_add)))))))
      (pss_one (ps_ret (pv 2)))))),
    fn_run (np := 2) (N := ["row", "window", "tokens", "place", "distance", "many"]) (body := b_found_in) (by unfold b_found_in; exact (sv_seq (sv_asg (ei_lst ev_nil))
      (sv_seq (sv_asg (ei_c cr_int))
      (sv_seq (sv_while (et_tst (ei_op (j_I0 fun _ _ => cr_bl) ei_var (ei_cb jb_len (ea_cons ei_var ea_nil)))) (sv_seq (sv_asgT (sg_tup (sgs_cons sg_name (sgs_cons sg_name sgs_nil))) (ei_callN (ev_cons ei_var (ev_cons ei_var (ev_cons ei_var ev_nil)))))
      (sv_if (et_tst (ei_op (j_I0 fun _ _ => cr_bl) ei_var (ei_c cr_int))) (sv_seq (sv_drop (ei_bm jm_app ei_var (ev_cons (ei_tup (ev_cons (ei_c cr_str) (ev_cons (ei_op j_ixY ei_var ei_var) ev_nil))) ev_nil)))
      (sv_aug (ei_c cr_int))) (sv_seq (sv_drop (ei_bm jm_app ei_var (ev_cons (ei_tup (ev_cons (ei_c cr_str) (ev_cons ei_var (ev_cons ei_var ev_nil)))) ev_nil)))
      (sv_aug ei_var)))))
      (sv_ret ei_var))))) h⟩)
@[irreducible] noncomputable def b_is_whole_tables : Ms :=
  (mRet (mAndV (mCB fIsi (aCons (mName 0) (aCons (mC (.ty "int")) aNil))) (mNotV (mCB fIsi (aCons (mName 0) (aCons (mC (.ty "bool")) aNil))))))
noncomputable def m_is_whole_tables : Mf := mFn 1 1 b_is_whole_tables
theorem ok_is_whole_tables {P : Program} {w : World} {K : PySem.W.Frag} {mg : Str → Option Value} {base : Heap} (T : Tx K mg) : FnOk P w K mg base CX0 1 T.a_is_whole_tables T.d_is_whole_tables ["thing"] (spM K (ctT T) m_is_whole_tables) :=
  T.F_is_whole_tables.ok sc_is_whole_tables (fun vs H Q E h => sp_len h) (fun cdv A outer s H vs Q E hr h => ⟨_, (pss_one (ps_ret (pe_and (pe_callB (call_isiZ (K := K) rfl) (by rfl) T.z_isinstance (by decide +kernel) (pa_cons (pv 0) (pa_cons (pe_bltn (v := .ty "int") rfl T.z_int (by decide +kernel) rfl) pa_nil))) (pe_one (pe_not (pe_callB (call_isiZ (K := K) rfl) (by rfl) T.z_isinstance (by decide +kernel) (pa_cons (pv 0) (pa_cons (pe_bltn (v := .ty "bool") rfl T.z_bool (by decide +kernel) rfl) pa_nil)))))))),
    fn_run (np := 1) (N := ["thing"]) (body := b_is_whole_tables) (by unfold b_is_whole_tables; exact (sv_ret (ei_andV (ei_cb jb_isi (ea_cons ei_var (ea_cons (ei_c cr_ty) ea_nil))) (ei_notV (ei_cb jb_isi (ea_cons ei_var (ea_cons (ei_c cr_ty) ea_nil))))))) h⟩)
@[irreducible] noncomputable def b_is_list_of : Ms :=
  (mSeq (mIfS (mOr (mNot (mTru (mCB fIsi (aCons (mName 0) (aCons (mC (.ty "list")) aNil))))) (mNot (mBl (mChain (fI0 fun i j => .bl (decide (i ≤ j))) (fI0 fun i j => .bl (decide (i ≤ j))) (mC (.int 1)) (mCB fLen (aCons (mName 0) aNil)) (mC (.int 64)))))) (mRet (mC (.bl false))) mNext)
  (mRet (mCB (fBls fun bs => .bl (bs.all id)) (aCons (mLc [3] (mWL (mName 0)) (tgN 3) mYes (mAndV (mCallN m_is_whole_tables (vCons (mName 3) vNil)) (mChain (fI0 fun i j => .bl (decide (i ≤ j))) (fI0 fun i j => .bl (decide (i ≤ j))) (mName 1) (mName 3) (mName 2)))) aNil))))
noncomputable def m_is_list_of : Mf := mFn 3 4 b_is_list_of
theorem ok_is_list_of {P : Program} {w : World} {K : PySem.W.Frag} {mg : Str → Option Value} {base : Heap} (T : Tx K mg) : FnOk P w K mg base CX0 2 T.a_is_list_of T.d_is_list_of ["thing", "low", "high"] (spM K (ctT T) m_is_list_of) :=
  T.F_is_list_of.ok sc_is_list_of (fun vs H Q E h => sp_len h) (fun cdv A outer s H vs Q E hr h => ⟨_, (pss_cons (ps_if (PW.pt (pw_or (pt_not (pt_truthZ (K := K) rfl (pe_callB (call_isiZ (K := K) rfl) (by rfl) T.z_isinstance (by decide +kernel) (pa_cons (pv 0) (pa_cons (pe_bltn (v := .ty "list") rfl T.z_list (by decide +kernel) rfl) pa_nil))) (by intro _; rfl))) (pw_or1 (pt_not (pt_chain op_le op_le pe_int (pe_callB (call_lenY (K := K) rfl) (by rfl) T.z_len PySem.boot_len (pa_cons (pv 0) pa_nil)) (pe_glob rfl T.m_MOST_SYMBOLS T.r_MOST_SYMBOLS)))))) (pss_one (ps_ret pe_bl)) pss_nil)
      (pss_one (ps_ret (pe_callB (cr_allZ (K := K) rfl rfl) (by rfl) T.z_all (by decide +kernel) (pa_cons (pe_lc (own := [("number", 3)]) rfl sc_is_list_of.nd (pi_listZ (K := K) rfl (pv 0)) (blkOk_by (N := ["thing", "low", "high", "number"]) (sc := defScope s_is_list_of) (by decide +kernel)) (fun _ _ _ _ _ => (pg_name (i := 3) sc_is_list_of.nd rfl (by first | exact Or.inl rfl | exact Or.inr rfl))) (fun _ _ _ _ _ => pts_nil) (fun _ _ _ _ _ => (pe_and (pe_callZ (ok_is_whole_tables T) (hr.mono (by decide)) (by rfl) T.g_is_whole_tables T.F_is_whole_tables.kp T.b_is_whole_tables pass0 (pa_cons (pv 3) pa_nil)) (pe_one (pe_chain op_le op_le (pv 1) (pv 3) (pv 2)))))) pa_nil))))),
    fn_run (np := 3) (N := ["thing", "low", "high", "number"]) (body := b_is_list_of) (by unfold b_is_list_of; exact (sv_seq (sv_if (et_or (et_not (et_tru (ei_cb jb_isi (ea_cons ei_var (ea_cons (ei_c cr_ty) ea_nil))))) (et_not (et_tst (ei_chain (j_I0 fun _ _ => cr_bl) (j_I0 fun _ _ => cr_bl) (ei_c cr_int) (ei_cb jb_len (ea_cons ei_var ea_nil)) (ei_c cr_int))))) (sv_ret (ei_c cr_bl)) sv_next)
      (sv_ret (ei_cb jb_all (ea_cons (ei_lc (ws := [3]) (jw_list ei_var) sg_name (by decide) et_yes (ei_andV (ei_callN (ev_cons ei_var ev_nil)) (ei_chain (j_I0 fun _ _ => cr_bl) (j_I0 fun _ _ => cr_bl) ei_var ei_var ei_var))) ea_nil))))) h⟩)
@[irreducible] noncomputable def b_check_counts : Ms :=
  (mIfS (mOr (mNot (mTru (mCallN m_is_list_of (vCons (mName 0) (vCons (mC (.int 0)) (vCons (mC (.int 1000)) vNil)))))) (mBl (mOp (fI0 fun i j => .bl (decide (j < i))) (mCB (fInts gSum) (aCons (mName 0) aNil)) (mC (.int 1000))))) (mRaise 2) mNext)
noncomputable def m_check_counts : Mf := mFn 1 1 b_check_counts
theorem ok_check_counts {P : Program} {w : World} {K : PySem.W.Frag} {mg : Str → Option Value} {base : Heap} (T : Tx K mg) : FnOk P w K mg base (L2.CX P w) 3 T.a_check_counts T.d_check_counts ["counts"] (spM K (ctT T) m_check_counts) :=
  T.F_check_counts.okX sc_check_counts (fun vs H Q E h => sp_len h) (fun cdv A outer s H vs Q E hr h => ⟨_, (pss_one (ps_if (PW.pt (pw_or (pt_not (pt_truthZ (K := K) rfl (pe_callZ (ok_is_list_of T) (hr.mono (by decide)) (by rfl) T.g_is_list_of T.F_is_list_of.kp T.b_is_list_of pass0 (pa_cons (pv 0) (pa_cons pe_int (pa_cons (pe_glob rfl T.m_MOST_COUNT T.r_MOST_COUNT) pa_nil)))) (by intro _; rfl))) (pw_or1 (pt_cmpR op_gt (pe_callB (cr_sumZ (K := K) rfl rfl) (by rfl) T.z_sum (by decide +kernel) (pa_cons (pv 0) pa_nil)) (pe_glob rfl T.m_MOST_COUNT T.r_MOST_COUNT) (nomark _))))) (pss_one (ps_raiseZ rfl (takes_of rfl rfl rfl rfl) PySem.F.excBase_ValueError T.x_BadTable T.g_BadTable T.k_BadTable (raises_own T.b_BadTable T.t_BadTable) (by rfl))) pss_nil)),
    fn_run (np := 1) (N := ["counts"]) (body := b_check_counts) (by unfold b_check_counts; exact (sv_if (et_or (et_not (et_tru (ei_callN (ev_cons ei_var (ev_cons (ei_c cr_int) (ev_cons (ei_c cr_int) ev_nil)))))) (et_tst (ei_op (j_I0 fun _ _ => cr_bl) (ei_cb jb_sum (ea_cons ei_var ea_nil)) (ei_c cr_int)))) (sv_raise (c := 2)) sv_next)) h⟩)
@[irreducible] noncomputable def b_first_parts : Ms :=
  (mSeq (mAsg 1 mDNew)
  (mSeq (mFor (mWE (vCons (mName 0) vNil)) (tgT 2 (tgCons (tgN 2) (tgCons (tgN 3) tgNil))) (mIfS (mBl (mOp (fI0 fun i j => .bl (decide (j < i))) (mName 3) (mC (.int 0)))) (mAsgS (mName 1) (mName 2) (mName 3)) mNext))
  (mRet (mName 1))))
noncomputable def m_first_parts : Mf := mFn 1 4 b_first_parts
theorem ok_first_parts {P : Program} {w : World} {K : PySem.W.Frag} {mg : Str → Option Value} {base : Heap} (T : Tx K mg) : FnOk P w K mg base CX0 1 T.a_first_parts T.d_first_parts ["counts"] (spM K (ctT T) m_first_parts) :=
  T.F_first_parts.ok sc_first_parts (fun vs H Q E h => sp_len h) (fun cdv A outer s H vs Q E hr h => ⟨_, (pss_cons (ps_set (i := 1) sc_first_parts.nd rfl (by first | exact Or.inl rfl | exact Or.inr rfl) pe_dnewK)
      (pss_cons (ps_for PassesOwn.never rfl (pi_enumZ (K := K) rfl rfl T.z_enumerate (pa_cons (pv 0) pa_nil)) (pg_tupZ (K := K) (n := 2) rfl rfl (pgs_cons (pg_name (i := 2) sc_first_parts.nd rfl (by first | exact Or.inl rfl | exact Or.inr rfl)) (pgs_cons (pg_name (i := 3) sc_first_parts.nd rfl (by first | exact Or.inl rfl | exact Or.inr rfl)) pgs_nil))) (pss_one (ps_if (pt_cmpR op_gt (pv 3) pe_int (nomark _)) (pss_one (ps_asg (pv 3) (pg_sub (pv 1) (pv 2) (set_Y (hu_of hr))))) pss_nil)))
      (pss_one (ps_ret (pv 1))))),
    fn_run (np := 1) (N := ["counts", "found", "symbol", "count"]) (body := b_first_parts) (by unfold b_first_parts; exact (sv_seq (sv_asg ei_dnew)
      (sv_seq (sv_for (jw_enum (ev_cons ei_var ev_nil)) (sg_tup (sgs_cons sg_name (sgs_cons sg_name sgs_nil))) (sv_if (et_tst (ei_op (j_I0 fun _ _ => cr_bl) ei_var (ei_c cr_int))) (sv_asgS ei_var ei_var ei_var) sv_next))
      (sv_ret ei_var)))) h⟩)
@[irreducible] noncomputable def b_is_pair : Ms :=
  (mSeq (mIfS (mOr (mNot (mTru (mCB fIsi (aCons (mName 0) (aCons (mC (.ty "tuple")) aNil))))) (mOr (mBl (mOp fNe (mCB fLen (aCons (mName 0) aNil)) (mC (.int 2)))) (mBl (mOp fEq (mOp fIxY (mName 0) (mC (.int 0))) (mOp fIxY (mName 0) (mC (.int 1))))))) (mRet (mC (.bl false))) mNext)
  (mRet (mCB (fBls fun bs => .bl (bs.all id)) (aCons (mLc [2] (mWT (mName 0)) (tgN 2) mYes (mAndV (mCallN m_is_whole_tables (vCons (mName 2) vNil)) (mOp fIn (mName 2) (mName 1)))) aNil))))
noncomputable def m_is_pair : Mf := mFn 2 3 b_is_pair
theorem ok_is_pair {P : Program} {w : World} {K : PySem.W.Frag} {mg : Str → Option Value} {base : Heap} (T : Tx K mg) : FnOk P w K mg base CX0 2 T.a_is_pair T.d_is_pair ["pair", "parts"] (spM K (ctT T) m_is_pair) :=
  T.F_is_pair.ok sc_is_pair (fun vs H Q E h => sp_len h) (fun cdv A outer s H vs Q E hr h => ⟨_, (pss_cons (ps_if (PW.pt (pw_or (pt_not (pt_truthZ (K := K) rfl (pe_callB (call_isiZ (K := K) rfl) (by rfl) T.z_isinstance (by decide +kernel) (pa_cons (pv 0) (pa_cons (pe_bltn (v := .ty "tuple") rfl T.z_tuple (by decide +kernel) rfl) pa_nil))) (by intro _; rfl))) (pw_or (pt_cmpR (op_neZ (K := K) rfl hr.units) (pe_callB (call_lenY (K := K) rfl) (by rfl) T.z_len PySem.boot_len (pa_cons (pv 0) pa_nil)) pe_int (nomark _)) (pw_or1 (pt_cmpR (op_eqZ (K := K) rfl hr.units) (pe_ix (ix_Y (K := K) rfl (hu_of hr)) (pv 0) pe_int (fun _ _ => rfl)) (pe_ix (ix_Y (K := K) rfl (hu_of hr)) (pv 0) pe_int (fun _ _ => rfl)) (nomark _)))))) (pss_one (ps_ret pe_bl)) pss_nil)
      (pss_one (ps_ret (pe_callB (cr_allZ (K := K) rfl rfl) (by rfl) T.z_all (by decide +kernel) (pa_cons (pe_lc (own := [("number", 2)]) rfl sc_is_pair.nd (pi_tupZ (K := K) rfl (pv 0)) (blkOk_by (N := ["pair", "parts", "number"]) (sc := defScope s_is_pair) (by decide +kernel)) (fun _ _ _ _ _ => (pg_name (i := 2) sc_is_pair.nd rfl (by first | exact Or.inl rfl | exact Or.inr rfl))) (fun _ _ _ _ _ => pts_nil) (fun _ _ _ _ _ => (pe_and (pe_callZ (ok_is_whole_tables T) (hr.mono (by decide)) (by rfl) T.g_is_whole_tables T.F_is_whole_tables.kp T.b_is_whole_tables pass0 (pa_cons (pv 2) pa_nil)) (pe_one (pe_cmpR (op_inY (K := K) rfl (u65 hr)) (pv 2) (pv 1) (by rfl)))))) pa_nil))))),
    fn_run (np := 2) (N := ["pair", "parts", "number"]) (body := b_is_pair) (by unfold b_is_pair; exact (sv_seq (sv_if (et_or (et_not (et_tru (ei_cb jb_isi (ea_cons ei_var (ea_cons (ei_c cr_ty) ea_nil))))) (et_or (et_tst (ei_op j_ne (ei_cb jb_len (ea_cons ei_var ea_nil)) (ei_c cr_int))) (et_tst (ei_op j_eq (ei_op j_ixY ei_var (ei_c cr_int)) (ei_op j_ixY ei_var (ei_c cr_int)))))) (sv_ret (ei_c cr_bl)) sv_next)
      (sv_ret (ei_cb jb_all (ea_cons (ei_lc (ws := [2]) (jw_tup ei_var) sg_name (by decide) et_yes (ei_andV (ei_callN (ev_cons ei_var ev_nil)) (ei_op j_in ei_var ei_var))) ea_nil))))) h⟩)
@[irreducible] noncomputable def b_put_together : Ms :=
  (mSeq (mIfS (mNot (mTru (mCallN m_is_pair (vCons (mName 0) (vCons (mName 1) vNil))))) (mRaiseA 3 "at" (vCons (mC (.str (Str.ofString "no pair of parts"))) (vCons (mName 3) vNil))) mNext)
  (mSeq (mAsg 4 (mLst (vCons (mPop (mName 1) (mOp fIxY (mName 0) (mC (.int 0)))) (vCons (mPop (mName 1) (mOp fIxY (mName 0) (mC (.int 1)))) vNil))))
  (mSeq (mIfS (mAnd (mBl (mOp fNeD0 (mName 1) mDNew)) (mBl (mOp (fI0 fun i j => .bl (decide (i < j))) (mMinVals (mName 1)) (mCB (fInts gMax) (aCons (mName 4) aNil))))) (mRaiseA 3 "at" (vCons (mC (.str (Str.ofString "not the least ones"))) (vCons (mName 3) vNil))) mNext)
  (mSeq (mAsgS (mName 1) (mName 2) (mCB (fInts gSum) (aCons (mName 4) aNil)))
  (mRet (mCB (fInts gSum) (aCons (mName 4) aNil)))))))
noncomputable def m_put_together : Mf := mFn 4 5 b_put_together
theorem ok_put_together {P : Program} {w : World} {K : PySem.W.Frag} {mg : Str → Option Value} {base : Heap} (T : Tx K mg) : FnOk P w K mg base (L2.CX P w) 3 T.a_put_together T.d_put_together ["pair", "parts", "number", "at"] (spM K (ctT T) m_put_together) :=
  T.F_put_together.okX sc_put_together (fun vs H Q E h => sp_len h) (fun cdv A outer s H vs Q E hr h => ⟨_, (pss_cons (ps_if (pt_not (pt_truthZ (K := K) rfl (pe_callZ (ok_is_pair T) (hr.mono (by decide)) (by rfl) T.g_is_pair T.F_is_pair.kp T.b_is_pair pass0 (pa_cons (pv 0) (pa_cons (pv 1) pa_nil))) (by intro _; rfl))) (pss_one (ps_raise rfl (takes_of rfl rfl rfl rfl) (pmk_oex T.ox_BadPaper T.iC_BadPaper T.tI_BadPaper (ok_BadPaper_init T) (hr.mono (by decide)) T.b_BadPaper_init .nil pass0 (by rfl) T.g_BadPaper (pa_cons pe_str (pa_cons (pv 3) pa_nil))))) pss_nil)
      (pss_cons (ps_set (i := 4) sc_put_together.nd rfl (by first | exact Or.inl rfl | exact Or.inr rfl) (pe_lst (pa_cons (pe_dpop1 (pv 1) (pe_ix (ix_Y (K := K) rfl (hu_of hr)) (pv 0) pe_int (fun _ _ => rfl)) ⟨rfl, rfl, rfl, rfl⟩) (pa_cons (pe_dpop1 (pv 1) (pe_ix (ix_Y (K := K) rfl (hu_of hr)) (pv 0) pe_int (fun _ _ => rfl)) ⟨rfl, rfl, rfl, rfl⟩) pa_nil))))
      (pss_cons (ps_if (PW.pt (pw_and (pt_cmpR (op_neD0 (Nat.lt_of_le_of_lt (Nat.le_add_right _ _) hr.units)) (pv 1) pe_dnewK (nomark _)) (pw_and1 (pt_cmpR op_lt (pe_minVals rfl (by rfl) T.z_min (pv 1)) (pe_callB (cr_maxZ (K := K) rfl rfl) (by rfl) T.z_max (by decide +kernel) (pa_cons (pv 4) pa_nil)) (nomark _))))) (pss_one (ps_raise rfl (takes_of rfl rfl rfl rfl) (pmk_oex T.ox_BadPaper T.iC_BadPaper T.tI_BadPaper (ok_BadPaper_init T) (hr.mono (by decide)) T.b_BadPaper_init .nil pass0 (by rfl) T.g_BadPaper (pa_cons pe_str (pa_cons (pv 3) pa_nil))))) pss_nil)
      (pss_cons (ps_asg (pe_callB (cr_sumZ (K := K) rfl rfl) (by rfl) T.z_sum (by decide +kernel) (pa_cons (pv 4) pa_nil)) (pg_sub (pv 1) (pv 2) (set_Y (hu_of hr))))
      (pss_one (ps_ret (pe_callB (cr_sumZ (K := K) rfl rfl) (by rfl) T.z_sum (by decide +kernel) (pa_cons (pv 4) pa_nil)))))))),
    fn_run (np := 4) (N := ["pair", "parts", "number", "at", "weights"]) (body := b_put_together) (by unfold b_put_together; exact (sv_seq (sv_if (et_not (et_tru (ei_callN (ev_cons ei_var (ev_cons ei_var ev_nil))))) (sv_raiseA (c := 3) T.ox_BadPaper T.n_at_BadPaper (ev_cons (ei_c cr_str) (ev_cons ei_var ev_nil))) sv_next)
      (sv_seq (sv_asg (ei_lst (ev_cons (ei_pop ei_var (ei_op j_ixY ei_var (ei_c cr_int))) (ev_cons (ei_pop ei_var (ei_op j_ixY ei_var (ei_c cr_int))) ev_nil))))
      (sv_seq (sv_if (et_and (et_tst (ei_op j_neD0 ei_var ei_dnew)) (et_tst (ei_op (j_I0 fun _ _ => cr_bl) (ei_minVals ei_var) (ei_cb jb_max (ea_cons ei_var ea_nil))))) (sv_raiseA (c := 3) T.ox_BadPaper T.n_at_BadPaper (ev_cons (ei_c cr_str) (ev_cons ei_var ev_nil))) sv_next)
      (sv_seq (sv_asgS (ei_cb jb_sum (ea_cons ei_var ea_nil)) ei_var ei_var)
      (sv_ret (ei_cb jb_sum (ea_cons ei_var ea_nil)))))))) h⟩)
@[irreducible] noncomputable def b_check_paper : Ms :=
  (mSeq (mDrop (mCall m_check_counts (vCons (mName 0) vNil)))
  (mSeq (mIfS (mNot (mTru (mCB fIsi (aCons (mName 1) (aCons (mC (.ty "list")) aNil))))) (mRaiseA 3 "at" (vCons (mC (.str (Str.ofString "no list"))) (vCons (mC .non) vNil))) mNext)
  (mSeq (mAsgK 2 (mCallN m_first_parts (vCons (mName 0) vNil)))
  (mSeq (mIfS (mAnd (mBl (mOp fEq (mCB fLen (aCons (mName 2) aNil)) (mC (.int 1)))) (mBl (mOp fEq (mName 1) (mLst vNil)))) (mRet (mCB (fInts gSum) (aCons (mName 0) aNil))) mNext)
  (mSeq (mAsg 3 (mC (.int 0)))
  (mSeq (mFor (mWE (vCons (mName 1) vNil)) (tgT 2 (tgCons (tgN 4) (tgCons (tgN 5) tgNil))) (mAug 3 (fun i j => i + j) (mCall m_put_together (vCons (mName 5) (vCons (mName 2) (vCons (mOp fAdd (mCB fLen (aCons (mName 0) aNil)) (mName 4)) (vCons (mName 4) vNil)))))))
  (mSeq (mIfS (mBl (mOp (fI0 fun i j => .bl (decide (j < i))) (mCB fLen (aCons (mName 2) aNil)) (mC (.int 1)))) (mRaiseA 3 "at" (vCons (mC (.str (Str.ofString "parts are left"))) (vCons (mCB fLen (aCons (mName 1) aNil)) vNil))) mNext)
  (mRet (mName 3)))))))))
noncomputable def m_check_paper : Mf := mFn 2 6 b_check_paper
theorem ok_check_paper {P : Program} {w : World} {K : PySem.W.Frag} {mg : Str → Option Value} {base : Heap} (T : Tx K mg) : FnOk P w K mg base (L2.CX P w) 4 T.a_check_paper T.d_check_paper ["counts", "paper"] (spM K (ctT T) m_check_paper) :=
  T.F_check_paper.okX sc_check_paper (fun vs H Q E h => sp_len h) (fun cdv A outer s H vs Q E hr h => ⟨_, (pss_cons (ps_expr (pe_callS (ok_check_counts T) (hr.mono (by decide)) (by rfl) T.g_check_counts T.F_check_counts.kp T.b_check_counts (fun σ => passAt (takes_of rfl rfl rfl rfl) σ) (pa_cons (pv 0) pa_nil)))
      (pss_cons (ps_if (pt_not (pt_truthZ (K := K) rfl (pe_callB (call_isiZ (K := K) rfl) (by rfl) T.z_isinstance (by decide +kernel) (pa_cons (pv 1) (pa_cons (pe_bltn (v := .ty "list") rfl T.z_list (by decide +kernel) rfl) pa_nil))) (by intro _; rfl))) (pss_one (ps_raise rfl (takes_of rfl rfl rfl rfl) (pmk_oex T.ox_BadPaper T.iC_BadPaper T.tI_BadPaper (ok_BadPaper_init T) (hr.mono (by decide)) T.b_BadPaper_init .nil pass0 (by rfl) T.g_BadPaper (pa_cons pe_str (pa_cons pe_non pa_nil))))) pss_nil)
      (pss_cons (ps_set (i := 2) sc_check_paper.nd rfl (by first | exact Or.inl rfl | exact Or.inr rfl) (pe_callZ (ok_first_parts T) (hr.mono (by decide)) (by rfl) T.g_first_parts T.F_first_parts.kp T.b_first_parts pass0 (pa_cons (pv 0) pa_nil)))
      (pss_cons (ps_if (PW.pt (pw_and (pt_cmpR (op_eqZ (K := K) rfl hr.units) (pe_callB (call_lenY (K := K) rfl) (by rfl) T.z_len PySem.boot_len (pa_cons (pv 2) pa_nil)) pe_int (nomark _)) (pw_and1 (pt_cmpR (op_eqZ (K := K) rfl hr.units) (pv 1) (pe_lst pa_nil) (nomark _))))) (pss_one (ps_ret (pe_callB (cr_sumZ (K := K) rfl rfl) (by rfl) T.z_sum (by decide +kernel) (pa_cons (pv 0) pa_nil)))) pss_nil)
      (pss_cons (ps_set (i := 3) sc_check_paper.nd rfl (by first | exact Or.inl rfl | exact Or.inr rfl) pe_int)
      (pss_cons (ps_for (passes_of rfl) rfl (pi_enumZ (K := K) rfl rfl T.z_enumerate (pa_cons (pv 1) pa_nil)) (pg_tupZ (K := K) (n := 2) rfl rfl (pgs_cons (pg_name (i := 4) sc_check_paper.nd rfl (by first | exact Or.inl rfl | exact Or.inr rfl)) (pgs_cons (pg_name (i := 5) sc_check_paper.nd rfl (by first | exact Or.inl rfl | exact Or.inr rfl)) pgs_nil))) (pss_one (ps_aug (i := 3) sc_check_paper.nd rfl (by first | exact Or.inl rfl | exact Or.inr rfl) (pe_callS (ok_put_together T) (hr.mono (by decide)) (by rfl) T.g_put_together T.F_put_together.kp T.b_put_together (fun σ => passAt (takes_of rfl rfl rfl rfl) σ) (pa_cons (pv 5) (pa_cons (pv 2) (pa_cons (pe_op (op_addZ (K := K) rfl) (pe_callB (call_lenY (K := K) rfl) (by rfl) T.z_len PySem.boot_len (pa_cons (pv 0) pa_nil)) (pv 4)) (pa_cons (pv 4) pa_nil))))) ip_add)))
      (pss_cons (ps_if (pt_cmpR op_gt (pe_callB (call_lenY (K := K) rfl) (by rfl) T.z_len PySem.boot_len (pa_cons (pv 2) pa_nil)) pe_int (nomark _)) (pss_one (ps_raise rfl (takes_of rfl rfl rfl rfl) (pmk_oex T.ox_BadPaper T.iC_BadPaper T.tI_BadPaper (ok_BadPaper_init T) (hr.mono (by decide)) T.b_BadPaper_init .nil pass0 (by rfl) T.g_BadPaper (pa_cons pe_str (pa_cons (pe_callB (call_lenY (K := K) rfl) (by rfl) T.z_len PySem.boot_len (pa_cons (pv 1) pa_nil)) pa_nil))))) pss_nil)
      (pss_one (ps_ret (pv 3)))))))))),
    fn_run (np := 2) (N := ["counts", "paper", "parts", "bits", "at", "pair"]) (body := b_check_paper) (by unfold b_check_paper; exact (sv_seq (sv_drop (ei_callS (ev_cons ei_var ev_nil)))
      (sv_seq (sv_if (et_not (et_tru (ei_cb jb_isi (ea_cons ei_var (ea_cons (ei_c cr_ty) ea_nil))))) (sv_raiseA (c := 3) T.ox_BadPaper T.n_at_BadPaper (ev_cons (ei_c cr_str) (ev_cons (ei_c cr_non) ev_nil))) sv_next)
      (sv_seq (sv_asgK (ei_callN (ev_cons ei_var ev_nil)))
      (sv_seq (sv_if (et_and (et_tst (ei_op j_eq (ei_cb jb_len (ea_cons ei_var ea_nil)) (ei_c cr_int))) (et_tst (ei_op j_eq ei_var (ei_lst ev_nil)))) (sv_ret (ei_cb jb_sum (ea_cons ei_var ea_nil))) sv_next)
      (sv_seq (sv_asg (ei_c cr_int))
      (sv_seq (sv_for (jw_enum (ev_cons ei_var ev_nil)) (sg_tup (sgs_cons sg_name (sgs_cons sg_name sgs_nil))) (sv_aug (ei_callS (ev_cons ei_var (ev_cons ei_var (ev_cons (ei_op j_add (ei_cb jb_len (ea_cons ei_var ea_nil)) ei_var) (ev_cons ei_var ev_nil)))))))
      (sv_seq (sv_if (et_tst (ei_op (j_I0 fun _ _ => cr_bl) (ei_cb jb_len (ea_cons ei_var ea_nil)) (ei_c cr_int))) (sv_raiseA (c := 3) T.ox_BadPaper T.n_at_BadPaper (ev_cons (ei_c cr_str) (ev_cons (ei_cb jb_len (ea_cons ei_var ea_nil)) ev_nil))) sv_next)
      (sv_ret ei_var))))))))) h⟩)
@[irreducible] noncomputable def b_lengths_by : Ms :=
  (mSeq (mDrop (mCall m_check_paper (vCons (mName 0) (vCons (mName 1) vNil))))
  (mSeq (mAsg 2 mDNew)
  (mSeq (mFor (mRng3 (aCons (mOp (fI0 fun i j => .int (i - j)) (mCB fLen (aCons (mName 1) aNil)) (mC (.int 1))) (aCons (mUn fNeg (mC (.int 1))) (aCons (mUn fNeg (mC (.int 1))) aNil)))) (tgN 3) (mSeq (mAsg 4 (mGet2 (mName 2) (mOp fAdd (mCB fLen (aCons (mName 0) aNil)) (mName 3)) (mC (.int 0))))
  (mFor (mWT (mOp fIxY (mName 1) (mName 3))) (tgN 5) (mAsgS (mName 2) (mName 5) (mOp fAdd (mName 4) (mC (.int 1)))))))
  (mSeq (mAsg 6 (mLc [7] (mRng1 (aCons (mCB fLen (aCons (mName 0) aNil)) aNil)) (tgN 7) mYes (mGet2 (mName 2) (mName 7) (mC (.int 0)))))
  (mSeq (mIfS (mBl (mOp fEq (mName 1) (mLst vNil))) (mFor (mWN (mCallN m_first_parts (vCons (mName 0) vNil))) (tgN 7) (mAsgS (mName 6) (mName 7) (mC (.int 1)))) mNext)
  (mRet (mName 6)))))))
noncomputable def m_lengths_by : Mf := mFn 2 8 b_lengths_by
theorem ok_lengths_by {P : Program} {w : World} {K : PySem.W.Frag} {mg : Str → Option Value} {base : Heap} (T : Tx K mg) : FnOk P w K mg base (L2.CX P w) 5 T.a_lengths_by T.d_lengths_by ["counts", "paper"] (spM K (ctT T) m_lengths_by) :=
  T.F_lengths_by.okX sc_lengths_by (fun vs H Q E h => sp_len h) (fun cdv A outer s H vs Q E hr h => ⟨_, (pss_cons (ps_expr (pe_callS (ok_check_paper T) (hr.mono (by decide)) (by rfl) T.g_check_paper T.F_check_paper.kp T.b_check_paper (fun σ => passAt (takes_of rfl rfl rfl rfl) σ) (pa_cons (pv 0) (pa_cons (pv 1) pa_nil))))
      (pss_cons (ps_set (i := 2) sc_lengths_by.nd rfl (by first | exact Or.inl rfl | exact Or.inr rfl) pe_dnewK)
      (pss_cons (ps_for (passes_of rfl) rfl (pi_range3 rfl T.z_range (pa_cons (pe_op op_sub (pe_callB (call_lenY (K := K) rfl) (by rfl) T.z_len PySem.boot_len (pa_cons (pv 1) pa_nil)) pe_int) (pa_cons (pe_un un_neg pe_int) (pa_cons (pe_un un_neg pe_int) pa_nil)))) (pg_name (i := 3) sc_lengths_by.nd rfl (by first | exact Or.inl rfl | exact Or.inr rfl)) (pss_cons (ps_set (i := 4) sc_lengths_by.nd rfl (by first | exact Or.inl rfl | exact Or.inr rfl) (pe_dget2 (hu_of hr) (pv 2) (pe_op (op_addZ (K := K) rfl) (pe_callB (call_lenY (K := K) rfl) (by rfl) T.z_len PySem.boot_len (pa_cons (pv 0) pa_nil)) (pv 3)) pe_int ⟨rfl, rfl, rfl, rfl⟩))
      (pss_one (ps_for (passes_of rfl) rfl (pi_tupZ (K := K) rfl (pe_ix (ix_Y (K := K) rfl (hu_of hr)) (pv 1) (pv 3) (fun _ _ => rfl))) (pg_name (i := 5) sc_lengths_by.nd rfl (by first | exact Or.inl rfl | exact Or.inr rfl)) (pss_one (ps_asg (pe_op (op_addZ (K := K) rfl) (pv 4) pe_int) (pg_sub (pv 2) (pv 5) (set_Y (hu_of hr)))))))))
      (pss_cons (ps_setLc (i := 6) (own := [("symbol", 7)]) rfl sc_lengths_by.nd rfl rfl (sw_true rfl rfl rfl (by decide +kernel)) (pi_range1 rfl T.z_range (pa_cons (pe_callB (call_lenY (K := K) rfl) (by rfl) T.z_len PySem.boot_len (pa_cons (pv 0) pa_nil)) pa_nil)) (blkOk_by (N := ["counts", "paper", "deep", "at", "above", "number", "found", "symbol"]) (sc := defScope s_lengths_by) (by decide +kernel)) (fun _ _ _ _ _ => (pg_name (i := 7) sc_lengths_by.nd rfl (by first | exact Or.inl rfl | exact Or.inr rfl))) (fun _ _ _ _ _ => pts_nil) (fun _ _ _ _ _ => (pe_dget2 (hu_of hr) (pv 2) (pv 7) pe_int ⟨rfl, rfl, rfl, rfl⟩)))
      (pss_cons (ps_if (pt_cmpR (op_eqZ (K := K) rfl hr.units) (pv 1) (pe_lst pa_nil) (nomark _)) (pss_one (ps_for (passes_of rfl) rfl (pi_keys (pe_frz (pe_callZ (ok_first_parts T) (hr.mono (by decide)) (by rfl) T.g_first_parts T.F_first_parts.kp T.b_first_parts pass0 (pa_cons (pv 0) pa_nil)))) (pg_name (i := 7) sc_lengths_by.nd rfl (by first | exact Or.inl rfl | exact Or.inr rfl)) (pss_one (ps_asg pe_int (pg_sub (pv 6) (pv 7) (set_Y (hu_of hr))))))) pss_nil)
      (pss_one (ps_ret (pv 6)))))))),
    fn_run (np := 2) (N := ["counts", "paper", "deep", "at", "above", "number", "found", "symbol"]) (body := b_lengths_by) (by unfold b_lengths_by; exact (sv_seq (sv_drop (ei_callS (ev_cons ei_var (ev_cons ei_var ev_nil))))
      (sv_seq (sv_asg ei_dnew)
      (sv_seq (sv_for (jw_rng3 (ea_cons (ei_op (j_I0 fun _ _ => cr_int) (ei_cb jb_len (ea_cons ei_var ea_nil)) (ei_c cr_int)) (ea_cons (ei_un j_neg (ei_c cr_int)) (ea_cons (ei_un j_neg (ei_c cr_int)) ea_nil)))) sg_name (sv_seq (sv_asg (ei_get2 ei_var (ei_op j_add (ei_cb jb_len (ea_cons ei_var ea_nil)) ei_var) (ei_c cr_int)))
      (sv_for (jw_tup (ei_op j_ixY ei_var ei_var)) sg_name (sv_asgS (ei_op j_add ei_var (ei_c cr_int)) ei_var ei_var))))
      (sv_seq (sv_asg (ei_lc (ws := [7]) (jw_rng1 (ea_cons (ei_cb jb_len (ea_cons ei_var ea_nil)) ea_nil)) sg_name (by decide) et_yes (ei_get2 ei_var ei_var (ei_c cr_int))))
      (sv_seq (sv_if (et_tst (ei_op j_eq ei_var (ei_lst ev_nil))) (sv_for (jw_newK (ei_callN (ev_cons ei_var ev_nil))) sg_name (sv_asgS (ei_c cr_int) ei_var ei_var)) sv_next)
      (sv_ret ei_var))))))) h⟩)
@[irreducible] noncomputable def b_least_part : Ms :=
  (mRet (mOp fIxY (mCB fMinP (aCons (mLcD .items 0 [1, 2] (tgT 2 (tgCons (tgN 1) (tgCons (tgN 2) tgNil))) mYes (mTup (vCons (mName 2) (vCons (mName 1) vNil)))) aNil)) (mC (.int 1))))
noncomputable def m_least_part : Mf := mFn 1 3 b_least_part
theorem ok_least_part {P : Program} {w : World} {K : PySem.W.Frag} {mg : Str → Option Value} {base : Heap} (T : Tx K mg) : FnOk P w K mg base CX0 1 T.a_least_part T.d_least_part ["parts"] (spM K (ctT T) m_least_part) :=
  T.F_least_part.ok sc_least_part (fun vs H Q E h => sp_len h) (fun cdv A outer s H vs Q E hr h => ⟨_, (pss_one (ps_ret (pe_ix (ix_Y (K := K) rfl (hu_of hr)) (pe_callB (cr_minP (K := K) rfl rfl (u66 hr)) (by rfl) T.z_min (by decide +kernel) (pa_cons (pe_lock (pe_lc (own := [("number", 1), ("weight", 2)]) rfl sc_least_part.nd (pi_items (pv 0)) (blkOk_by (N := ["parts", "number", "weight"]) (sc := defScope s_least_part) (by decide +kernel)) (fun _ _ _ _ _ => (pg_tupZ (K := K) (n := 2) rfl rfl (pgs_cons (pg_name (i := 1) sc_least_part.nd rfl (by first | exact Or.inl rfl | exact Or.inr rfl)) (pgs_cons (pg_name (i := 2) sc_least_part.nd rfl (by first | exact Or.inl rfl | exact Or.inr rfl)) pgs_nil)))) (fun _ _ _ _ _ => pts_nil) (fun _ _ _ _ _ => (pe_tup (pa_cons (pv 2) (pa_cons (pv 1) pa_nil)))))) pa_nil)) pe_int (fun _ _ => rfl)))),
    fn_run (np := 1) (N := ["parts", "number", "weight"]) (body := b_least_part) (by unfold b_least_part; exact (sv_ret (ei_op j_ixY (ei_cb jb_minP (ea_cons (ei_lcD (kd := .items) (i := 0) (ws := [1, 2]) rfl (fun b => (sg_tup (sgs_cons sg_name (sgs_cons sg_name sgs_nil)))) (by decide) (fun b => et_yes) (fun b => (ei_tup (ev_cons ei_var (ev_cons ei_var ev_nil))))) ea_nil)) (ei_c cr_int)))) h⟩)
@[irreducible] noncomputable def b_pairs_of : Ms :=
  (mSeq (mDrop (mCall m_check_counts (vCons (mName 0) vNil)))
  (mSeq (mAsg 1 (mCallN m_first_parts (vCons (mName 0) vNil)))
  (mSeq (mAsg 2 (mLst vNil))
  (mSeq (mWh (mBl (mOp (fI0 fun i j => .bl (decide (j < i))) (mCB fLen (aCons (mName 1) aNil)) (mC (.int 1)))) (mSeq (mAsg 3 (mCallB m_least_part (aCons (mName 1) aNil)))
  (mSeq (mAsg 4 (mPop (mName 1) (mName 3)))
  (mSeq (mAsg 5 (mCallB m_least_part (aCons (mName 1) aNil)))
  (mSeq (mAug 4 (fun i j => i + j) (mPop (mName 1) (mName 5)))
  (mSeq (mAsgS (mName 1) (mOp fAdd (mCB fLen (aCons (mName 0) aNil)) (mCB fLen (aCons (mName 2) aNil))) (mName 4))
  (mDrop (mBM fApp (mName 2) (vCons (mTup (vCons (mName 3) (vCons (mName 5) vNil))) vNil)))))))))
  (mRet (mName 2))))))
noncomputable def m_pairs_of : Mf := mFn 1 6 b_pairs_of
theorem ok_pairs_of {P : Program} {w : World} {K : PySem.W.Frag} {mg : Str → Option Value} {base : Heap} (T : Tx K mg) : FnOk P w K mg base (L2.CX P w) 4 T.a_pairs_of T.d_pairs_of ["counts"] (spM K (ctT T) m_pairs_of) :=
  T.F_pairs_of.okX sc_pairs_of (fun vs H Q E h => sp_len h) (fun cdv A outer s H vs Q E hr h => ⟨_, (pss_cons (ps_expr (pe_callS (ok_check_counts T) (hr.mono (by decide)) (by rfl) T.g_check_counts T.F_check_counts.kp T.b_check_counts (fun σ => passAt (takes_of rfl rfl rfl rfl) σ) (pa_cons (pv 0) pa_nil)))
      (pss_cons (ps_set (i := 1) sc_pairs_of.nd rfl (by first | exact Or.inl rfl | exact Or.inr rfl) (pe_callZ (ok_first_parts T) (hr.mono (by decide)) (by rfl) T.g_first_parts T.F_first_parts.kp T.b_first_parts pass0 (pa_cons (pv 0) pa_nil)))
      (pss_cons (ps_set (i := 2) sc_pairs_of.nd rfl (by first | exact Or.inl rfl | exact Or.inr rfl) (pe_lst pa_nil))
      (pss_cons (ps_while (passes_of rfl) (pt_cmpR op_gt (pe_callB (call_lenY (K := K) rfl) (by rfl) T.z_len PySem.boot_len (pa_cons (pv 1) pa_nil)) pe_int (nomark _)) (pss_cons (ps_set (i := 3) sc_pairs_of.nd rfl (by first | exact Or.inl rfl | exact Or.inr rfl) (pe_callZ (ok_least_part T) (hr.mono (by decide)) (by rfl) T.g_least_part T.F_least_part.kp T.b_least_part pass0 (pa_cons (pv 1) pa_nil)))
      (pss_cons (ps_set (i := 4) sc_pairs_of.nd rfl (by first | exact Or.inl rfl | exact Or.inr rfl) (pe_dpop1 (pv 1) (pv 3) ⟨rfl, rfl, rfl, rfl⟩))
      (pss_cons (ps_set (i := 5) sc_pairs_of.nd rfl (by first | exact Or.inl rfl | exact Or.inr rfl) (pe_callZ (ok_least_part T) (hr.mono (by decide)) (by rfl) T.g_least_part T.F_least_part.kp T.b_least_part pass0 (pa_cons (pv 1) pa_nil)))
      (pss_cons (ps_aug (i := 4) sc_pairs_of.nd rfl (by first | exact Or.inl rfl | exact Or.inr rfl) (pe_dpop1 (pv 1) (pv 5) ⟨rfl, rfl, rfl, rfl⟩) ip_add)
      (pss_cons (ps_asg (pv 4) (pg_sub (pv 1) (pe_op (op_addZ (K := K) rfl) (pe_callB (call_lenY (K := K) rfl) (by rfl) T.z_len PySem.boot_len (pa_cons (pv 0) pa_nil)) (pe_callB (call_lenY (K := K) rfl) (by rfl) T.z_len PySem.boot_len (pa_cons (pv 2) pa_nil))) (set_Y (hu_of hr))))
      (pss_one (ps_expr (pe_bmZ (K := K) rfl PySem.F.plainAttrs_list PySem.F.slot_list_append PySem.F.type_list_append mt_append (pv 2) (pa_cons (pe_tup (pa_cons (pv 3) (pa_cons (pv 5) pa_nil))) pa_nil))))))))))
      (pss_one (ps_ret (pv 2))))))),
    fn_run (np := 1) (N := ["counts", "parts", "paper", "one", "weight", "other"]) (body := b_pairs_of) (by unfold b_pairs_of; exact (sv_seq (sv_drop (ei_callS (ev_cons ei_var ev_nil)))
      (sv_seq (sv_asg (ei_callN (ev_cons ei_var ev_nil)))
      (sv_seq (sv_asg (ei_lst ev_nil))
      (sv_seq (sv_while (et_tst (ei_op (j_I0 fun _ _ => cr_bl) (ei_cb jb_len (ea_cons ei_var ea_nil)) (ei_c cr_int))) (sv_seq (sv_asg (ei_callB (ea_cons ei_var ea_nil)))
      (sv_seq (sv_asg (ei_pop ei_var ei_var))
      (sv_seq (sv_asg (ei_callB (ea_cons ei_var ea_nil)))
      (sv_seq (sv_aug (ei_pop ei_var ei_var))
      (sv_seq (sv_asgS ei_var ei_var (ei_op j_add (ei_cb jb_len (ea_cons ei_var ea_nil)) (ei_cb jb_len (ea_cons ei_var ea_nil))))
      (sv_drop (ei_bm jm_app ei_var (ev_cons (ei_tup (ev_cons ei_var (ev_cons ei_var ev_nil))) ev_nil)))))))))
      (sv_ret ei_var)))))) h⟩)
@[irreducible] noncomputable def b_least_lengths : Ms :=
  (mRet (mCall m_lengths_by (vCons (mName 0) (vCons (mCall m_pairs_of (vCons (mName 0) vNil)) vNil))))
noncomputable def m_least_lengths : Mf := mFn 1 1 b_least_lengths
theorem ok_least_lengths {P : Program} {w : World} {K : PySem.W.Frag} {mg : Str → Option Value} {base : Heap} (T : Tx K mg) : FnOk P w K mg base (L2.CX P w) 6 T.a_least_lengths T.d_least_lengths ["counts"] (spM K (ctT T) m_least_lengths) :=
  T.F_least_lengths.okX sc_least_lengths (fun vs H Q E h => sp_len h) (fun cdv A outer s H vs Q E hr h => ⟨_, (pss_one (ps_ret (pe_callS (ok_lengths_by T) (hr.mono (by decide)) (by rfl) T.g_lengths_by T.F_lengths_by.kp T.b_lengths_by (fun σ => passAt (takes_of rfl rfl rfl rfl) σ) (pa_cons (pv 0) (pa_cons (pe_callS (ok_pairs_of T) (hr.mono (by decide)) (by rfl) T.g_pairs_of T.F_pairs_of.kp T.b_pairs_of (fun σ => passAt (takes_of rfl rfl rfl rfl) σ) (pa_cons (pv 0) pa_nil)) pa_nil))))),
    fn_run (np := 1) (N := ["counts"]) (body := b_least_lengths) (by unfold b_least_lengths; exact (sv_ret (ei_callS (ev_cons ei_var (ev_cons (ei_callS (ev_cons ei_var ev_nil)) ev_nil))))) h⟩)
@[irreducible] noncomputable def b_room_of : Ms :=
  (mRet (mCB (fInts gSum) (aCons (mLc [1] (mWL (mName 0)) (tgN 1) (mBl (mOp (fI0 fun i j => .bl (decide (j < i))) (mName 1) (mC (.int 0)))) (mOp (fI CShl fun i j => .int (i * 2 ^ j.toNat)) (mC (.int 1)) (mOp (fI0 fun i j => .int (i - j)) (mC (.int 15)) (mName 1)))) aNil)))
noncomputable def m_room_of : Mf := mFn 1 2 b_room_of
theorem ok_room_of {P : Program} {w : World} {K : PySem.W.Frag} {mg : Str → Option Value} {base : Heap} (T : Tx K mg) : FnOk P w K mg base CX0 1 T.a_room_of T.d_room_of ["lengths"] (spM K (ctT T) m_room_of) :=
  T.F_room_of.ok sc_room_of (fun vs H Q E h => sp_len h) (fun cdv A outer s H vs Q E hr h => ⟨_, (pss_one (ps_ret (pe_callB (cr_sumZ (K := K) rfl rfl) (by rfl) T.z_sum (by decide +kernel) (pa_cons (pe_lc (own := [("length", 1)]) rfl sc_room_of.nd (pi_listZ (K := K) rfl (pv 0)) (blkOk_by (N := ["lengths", "length"]) (sc := defScope s_room_of) (by decide +kernel)) (fun _ _ _ _ _ => (pg_name (i := 1) sc_room_of.nd rfl (by first | exact Or.inl rfl | exact Or.inr rfl))) (fun _ _ _ _ _ => (pts_one (pt_cmpR op_gt (pv 1) pe_int (nomark _)))) (fun _ _ _ _ _ => (pe_op op_shlW pe_int (pe_op op_sub (pe_glob rfl T.m_LONGEST T.r_LONGEST) (pv 1))))) pa_nil)))),
    fn_run (np := 1) (N := ["lengths", "length"]) (body := b_room_of) (by unfold b_room_of; exact (sv_ret (ei_cb jb_sum (ea_cons (ei_lc (ws := [1]) (jw_list ei_var) sg_name (by decide) (et_tst (ei_op (j_I0 fun _ _ => cr_bl) ei_var (ei_c cr_int))) (ei_op (j_I fun _ _ => cr_int) (ei_c cr_int) (ei_op (j_I0 fun _ _ => cr_int) (ei_c cr_int) ei_var))) ea_nil)))) h⟩)
@[irreducible] noncomputable def b_fits : Ms :=
  (mRet (mOp (fI0 fun i j => .bl (decide (i ≤ j))) (mCallN m_room_of (vCons (mName 0) vNil)) (mOp (fI CShl fun i j => .int (i * 2 ^ j.toNat)) (mC (.int 1)) (mC (.int 15)))))
noncomputable def m_fits : Mf := mFn 1 1 b_fits
theorem ok_fits {P : Program} {w : World} {K : PySem.W.Frag} {mg : Str → Option Value} {base : Heap} (T : Tx K mg) : FnOk P w K mg base CX0 2 T.a_fits T.d_fits ["lengths"] (spM K (ctT T) m_fits) :=
  T.F_fits.ok sc_fits (fun vs H Q E h => sp_len h) (fun cdv A outer s H vs Q E hr h => ⟨_, (pss_one (ps_ret (pe_cmpR op_le (pe_callZ (ok_room_of T) (hr.mono (by decide)) (by rfl) T.g_room_of T.F_room_of.kp T.b_room_of pass0 (pa_cons (pv 0) pa_nil)) (pe_op op_shlW pe_int (pe_glob rfl T.m_LONGEST T.r_LONGEST)) (nomark _)))),
    fn_run (np := 1) (N := ["lengths"]) (body := b_fits) (by unfold b_fits; exact (sv_ret (ei_op (j_I0 fun _ _ => cr_bl) (ei_callN (ev_cons ei_var ev_nil)) (ei_op (j_I fun _ _ => cr_int) (ei_c cr_int) (ei_c cr_int))))) h⟩)
@[irreducible] noncomputable def b_check_lengths : Ms :=
  (mIfS (mOr (mNot (mTru (mCallN m_is_list_of (vCons (mName 0) (vCons (mC (.int 0)) (vCons (mC (.int 15)) vNil)))))) (mNot (mTru (mCallN m_fits (vCons (mName 0) vNil))))) (mRaise 2) mNext)
noncomputable def m_check_lengths : Mf := mFn 1 1 b_check_lengths
theorem ok_check_lengths {P : Program} {w : World} {K : PySem.W.Frag} {mg : Str → Option Value} {base : Heap} (T : Tx K mg) : FnOk P w K mg base (L2.CX P w) 3 T.a_check_lengths T.d_check_lengths ["lengths"] (spM K (ctT T) m_check_lengths) :=
  T.F_check_lengths.okX sc_check_lengths (fun vs H Q E h => sp_len h) (fun cdv A outer s H vs Q E hr h => ⟨_, (pss_one (ps_if (PW.pt (pw_or (pt_not (pt_truthZ (K := K) rfl (pe_callZ (ok_is_list_of T) (hr.mono (by decide)) (by rfl) T.g_is_list_of T.F_is_list_of.kp T.b_is_list_of pass0 (pa_cons (pv 0) (pa_cons pe_int (pa_cons (pe_glob rfl T.m_LONGEST T.r_LONGEST) pa_nil)))) (by intro _; rfl))) (pw_or1 (pt_not (pt_truthZ (K := K) rfl (pe_callZ (ok_fits T) (hr.mono (by decide)) (by rfl) T.g_fits T.F_fits.kp T.b_fits pass0 (pa_cons (pv 0) pa_nil)) (by intro _; rfl)))))) (pss_one (ps_raiseZ rfl (takes_of rfl rfl rfl rfl) PySem.F.excBase_ValueError T.x_BadTable T.g_BadTable T.k_BadTable (raises_own T.b_BadTable T.t_BadTable) (by rfl))) pss_nil)),
    fn_run (np := 1) (N := ["lengths"]) (body := b_check_lengths) (by unfold b_check_lengths; exact (sv_if (et_or (et_not (et_tru (ei_callN (ev_cons ei_var (ev_cons (ei_c cr_int) (ev_cons (ei_c cr_int) ev_nil)))))) (et_not (et_tru (ei_callN (ev_cons ei_var ev_nil))))) (sv_raise (c := 2)) sv_next)) h⟩)
@[irreducible] noncomputable def b_words_of : Ms :=
  (mSeq (mDrop (mCall m_check_lengths (vCons (mName 0) vNil)))
  (mSeq (mAsg 1 (mLc [4] (mWL (mName 0)) (tgN 4) mYes (mC .non)))
  (mSeq (mAsg 2 (mC (.int 0)))
  (mSeq (mAsg 3 (mC (.int 0)))
  (mSeq (mFor (mWL (mCB fSort (aCons (mLc [5, 4] (mWE (vCons (mName 0) vNil)) (tgT 2 (tgCons (tgN 5) (tgCons (tgN 4) tgNil))) mYes (mTup (vCons (mName 4) (vCons (mName 5) vNil)))) aNil))) (tgT 2 (tgCons (tgN 4) (tgCons (tgN 5) tgNil))) (mIfS (mBl (mOp (fI0 fun i j => .bl (decide (j < i))) (mName 4) (mC (.int 0)))) (mSeq (mIfS (mBl (mOp (fI0 fun i j => .bl (decide (j < i))) (mName 3) (mC (.int 0)))) (mAsg 2 (mOp (fI CShl fun i j => .int (i * 2 ^ j.toNat)) (mOp fAdd (mName 2) (mC (.int 1))) (mOp (fI0 fun i j => .int (i - j)) (mName 4) (mName 3)))) mNext)
  (mSeq (mAsgS (mName 1) (mName 5) (mTup (vCons (mName 4) (vCons (mName 2) vNil))))
  (mAsg 3 (mName 4)))) mNext))
  (mRet (mName 1)))))))
noncomputable def m_words_of : Mf := mFn 1 6 b_words_of
theorem ok_words_of {P : Program} {w : World} {K : PySem.W.Frag} {mg : Str → Option Value} {base : Heap} (T : Tx K mg) : FnOk P w K mg base (L2.CX P w) 4 T.a_words_of T.d_words_of ["lengths"] (spM K (ctT T) m_words_of) :=
  T.F_words_of.okX sc_words_of (fun vs H Q E h => sp_len h) (fun cdv A outer s H vs Q E hr h => ⟨_, (pss_cons (ps_expr (pe_callS (ok_check_lengths T) (hr.mono (by decide)) (by rfl) T.g_check_lengths T.F_check_lengths.kp T.b_check_lengths (fun σ => passAt (takes_of rfl rfl rfl rfl) σ) (pa_cons (pv 0) pa_nil)))
      (pss_cons (ps_setLc (i := 1) (own := [("length", 4)]) rfl sc_words_of.nd rfl rfl (sw_true rfl rfl rfl (by decide +kernel)) (pi_listZ (K := K) rfl (pv 0)) (blkOk_by (N := ["lengths", "found", "number", "last", "length", "symbol"]) (sc := defScope s_words_of) (by decide +kernel)) (fun _ _ _ _ _ => (pg_name (i := 4) sc_words_of.nd rfl (by first | exact Or.inl rfl | exact Or.inr rfl))) (fun _ _ _ _ _ => pts_nil) (fun _ _ _ _ _ => pe_non))
      (pss_cons (ps_set (i := 2) sc_words_of.nd rfl (by first | exact Or.inl rfl | exact Or.inr rfl) pe_int)
      (pss_cons (ps_set (i := 3) sc_words_of.nd rfl (by first | exact Or.inl rfl | exact Or.inr rfl) pe_int)
      (pss_cons (ps_for (passes_of rfl) rfl (pi_listZ (K := K) rfl (pe_callB (cr_sortY (K := K) rfl (u66 hr)) (by rfl) T.z_sorted (by decide +kernel) (pa_cons (pe_lc (own := [("symbol", 5), ("length", 4)]) rfl sc_words_of.nd (pi_enumZ (K := K) rfl rfl T.z_enumerate (pa_cons (pv 0) pa_nil)) (blkOk_by (N := ["lengths", "found", "number", "last", "length", "symbol"]) (sc := defScope s_words_of) (by decide +kernel)) (fun _ _ _ _ _ => (pg_tupZ (K := K) (n := 2) rfl rfl (pgs_cons (pg_name (i := 5) sc_words_of.nd rfl (by first | exact Or.inl rfl | exact Or.inr rfl)) (pgs_cons (pg_name (i := 4) sc_words_of.nd rfl (by first | exact Or.inl rfl | exact Or.inr rfl)) pgs_nil)))) (fun _ _ _ _ _ => pts_nil) (fun _ _ _ _ _ => (pe_tup (pa_cons (pv 4) (pa_cons (pv 5) pa_nil))))) pa_nil))) (pg_tupZ (K := K) (n := 2) rfl rfl (pgs_cons (pg_name (i := 4) sc_words_of.nd rfl (by first | exact Or.inl rfl | exact Or.inr rfl)) (pgs_cons (pg_name (i := 5) sc_words_of.nd rfl (by first | exact Or.inl rfl | exact Or.inr rfl)) pgs_nil))) (pss_one (ps_if (pt_cmpR op_gt (pv 4) pe_int (nomark _)) (pss_cons (ps_if (pt_cmpR op_gt (pv 3) pe_int (nomark _)) (pss_one (ps_set (i := 2) sc_words_of.nd rfl (by first | exact Or.inl rfl | exact Or.inr rfl) (pe_op op_shlW (pe_op (op_addZ (K := K) rfl) (pv 2) pe_int) (pe_op op_sub (pv 4) (pv 3))))) pss_nil)
      (pss_cons (ps_asg (pe_tup (pa_cons (pv 4) (pa_cons (pv 2) pa_nil))) (pg_sub (pv 1) (pv 5) (set_Y (hu_of hr))))
      (pss_one (ps_set (i := 3) sc_words_of.nd rfl (by first | exact Or.inl rfl | exact Or.inr rfl) (pv 4))))) pss_nil)))
      (pss_one (ps_ret (pv 1)))))))),
    fn_run (np := 1) (N := ["lengths", "found", "number", "last", "length", "symbol"]) (body := b_words_of) (by unfold b_words_of; exact (sv_seq (sv_drop (ei_callS (ev_cons ei_var ev_nil)))
      (sv_seq (sv_asg (ei_lc (ws := [4]) (jw_list ei_var) sg_name (by decide) et_yes (ei_c cr_non)))
      (sv_seq (sv_asg (ei_c cr_int))
      (sv_seq (sv_asg (ei_c cr_int))
      (sv_seq (sv_for (jw_list (ei_cb jb_sort (ea_cons (ei_lc (ws := [5, 4]) (jw_enum (ev_cons ei_var ev_nil)) (sg_tup (sgs_cons sg_name (sgs_cons sg_name sgs_nil))) (by decide) et_yes (ei_tup (ev_cons ei_var (ev_cons ei_var ev_nil)))) ea_nil))) (sg_tup (sgs_cons sg_name (sgs_cons sg_name sgs_nil))) (sv_if (et_tst (ei_op (j_I0 fun _ _ => cr_bl) ei_var (ei_c cr_int))) (sv_seq (sv_if (et_tst (ei_op (j_I0 fun _ _ => cr_bl) ei_var (ei_c cr_int))) (sv_asg (ei_op (j_I fun _ _ => cr_int) (ei_op j_add ei_var (ei_c cr_int)) (ei_op (j_I0 fun _ _ => cr_int) ei_var ei_var))) sv_next)
      (sv_seq (sv_asgS (ei_tup (ev_cons ei_var (ev_cons ei_var ev_nil))) ei_var ei_var)
      (sv_asg ei_var))) sv_next))
      (sv_ret ei_var))))))) h⟩)
@[irreducible] noncomputable def b_l_packed : Ms :=
  (mSeq (mAsg 2 (mCallN m_found_in (vCons (mCB fList (aCons (mName 0) aNil)) (vCons (mName 1) vNil))))
  (mSeq (mAsg 3 (mCallN m_l_symbols (vCons (mName 2) vNil)))
  (mSeq (mAsg 4 (mCallN m_least_lengths (vCons (mLc [7] (mRng1 (aCons (mC (.int 33)) aNil)) (tgN 7) mYes (mBM fCnt (mName 3) (vCons (mName 7) vNil))) vNil)))
  (mSeq (mAsg 5 (mCallN m_words_of (vCons (mCB fList (aCons (mName 4) aNil)) vNil)))
  (mSeq (mAsg 6 (mOp fAdd (mJoin (mC (.str (Str.ofString ""))) (mLc [9] (mWL (mName 4)) (tgN 9) mYes (mCallN m_l_bits (vCons (mName 9) (vCons (mC (.int 4)) vNil))))) (mC (.str (Str.ofString "0000")))))
  (mSeq (mFor (mWZ (vCons (mName 3) (vCons (mName 2) vNil))) (tgT 2 (tgCons (tgN 7) (tgCons (tgN 8) tgNil))) (mSeq (mAsg 6 (mOp fAdd (mName 6) (mCallN m_l_bits (vCons (mOp fIxY (mOp fIxY (mName 5) (mName 7)) (mC (.int 1))) (vCons (mOp fIxY (mOp fIxY (mName 5) (mName 7)) (mC (.int 0))) vNil)))))
  (mIfS (mBl (mOp fEq (mName 7) (mC (.int 32)))) (mAsg 6 (mOp fAdd (mOp fAdd (mName 6) (mCallN m_l_bits (vCons (mOp (fI0 fun i j => .int (i - j)) (mOp fIxY (mName 8) (mC (.int 1))) (mC (.int 1))) (vCons (mC (.int 8)) vNil)))) (mCallN m_l_bits (vCons (mOp (fI0 fun i j => .int (i - j)) (mOp fIxY (mName 8) (mC (.int 2))) (mC (.int 1))) (vCons (mC (.int 4)) vNil))))) (mAsg 6 (mOp fAdd (mName 6) (mCallN m_l_bits (vCons (mOp (fI (fun _ j => 0 < j) fun i j => .int (i % j)) (mOp fIxY (mName 8) (mC (.int 1))) (mC (.int 8))) (vCons (mC (.int 3)) vNil))))))))
  (mRet (mCallN m_l_bytes (vCons (mName 6) vNil)))))))))
noncomputable def m_l_packed : Mf := mFn 2 10 b_l_packed
theorem ok_l_packed {P : Program} {w : World} {K : PySem.W.Frag} {mg : Str → Option Value} {base : Heap} (T : Tx K mg) : FnOk P w K mg base CX0 7 T.a_l_packed T.d_l_packed ["_law_row_here", "_law_window"] (spM K (ctT T) m_l_packed) :=
  T.F_l_packed.ok sc_l_packed (fun vs H Q E h => sp_len h) (fun cdv A outer s H vs Q E hr h => ⟨_, (pss_cons (ps_set (i := 2) sc_l_packed.nd rfl (by first | exact Or.inl rfl | exact Or.inr rfl) (pe_callZ (ok_found_in T) (hr.mono (by decide)) (by rfl) T.g_found_in T.F_found_in.kp T.b_found_in pass0 (pa_cons (pe_callTy (call_listZ (K := K) rfl) (by rfl) T.z_list (by decide +kernel) (pa_cons (pv 0) pa_nil)) (pa_cons (pv 1) pa_nil))))
      (pss_cons (ps_set (i := 3) sc_l_packed.nd rfl (by first | exact Or.inl rfl | exact Or.inr rfl) (pe_callZ (ok_l_symbols T) (hr.mono (by decide)) (by rfl) T.g_l_symbols T.F_l_symbols.kp T.b_l_symbols pass0 (pa_cons (pv 2) pa_nil)))
      (pss_cons (ps_set (i := 4) sc_l_packed.nd rfl (by first | exact Or.inl rfl | exact Or.inr rfl) (pe_callZ (ok_least_lengths T) (hr.mono (by decide)) (by rfl) T.g_least_lengths T.F_least_lengths.kp T.b_least_lengths passL (pa_cons (pe_lc (own := [("_law_symbol", 7)]) rfl sc_l_packed.nd (pi_range1 rfl T.z_range (pa_cons pe_int pa_nil)) (blkOk_by (N := ["_law_row_here", "_law_window", "_law_tokens", "_law_symbols_here", "_law_lengths", "_law_words", "_law_bits_here", "_law_symbol", "_law_token", "_law_length"]) (sc := defScope s_l_packed) (by decide +kernel)) (fun _ _ _ _ _ => (pg_name (i := 7) sc_l_packed.nd rfl (by first | exact Or.inl rfl | exact Or.inr rfl))) (fun _ _ _ _ _ => pts_nil) (fun _ _ _ _ _ => (pe_bmZ (K := K) rfl PySem.F.plainAttrs_list PySem.F.slot_list_count PySem.F.type_list_count (cnt_ok rfl) (pv 3) (pa_cons (pv 7) pa_nil)))) pa_nil)))
      (pss_cons (ps_set (i := 5) sc_l_packed.nd rfl (by first | exact Or.inl rfl | exact Or.inr rfl) (pe_callZ (ok_words_of T) (hr.mono (by decide)) (by rfl) T.g_words_of T.F_words_of.kp T.b_words_of passL (pa_cons (pe_callTy (call_listZ (K := K) rfl) (by rfl) T.z_list (by decide +kernel) (pa_cons (pv 4) pa_nil)) pa_nil)))
      (pss_cons (ps_set (i := 6) sc_l_packed.nd rfl (by first | exact Or.inl rfl | exact Or.inr rfl) (pe_op (op_addZ (K := K) rfl) (pe_joinY (K := K) rfl pe_str (pe_lc (own := [("_law_length", 9)]) rfl sc_l_packed.nd (pi_listZ (K := K) rfl (pv 4)) (blkOk_by (N := ["_law_row_here", "_law_window", "_law_tokens", "_law_symbols_here", "_law_lengths", "_law_words", "_law_bits_here", "_law_symbol", "_law_token", "_law_length"]) (sc := defScope s_l_packed) (by decide +kernel)) (fun _ _ _ _ _ => (pg_name (i := 9) sc_l_packed.nd rfl (by first | exact Or.inl rfl | exact Or.inr rfl))) (fun _ _ _ _ _ => pts_nil) (fun _ _ _ _ _ => (pe_callZ (ok_l_bits T) (hr.mono (by decide)) (by rfl) T.g_l_bits T.F_l_bits.kp T.b_l_bits pass0 (pa_cons (pv 9) (pa_cons pe_int pa_nil)))))) pe_str))
      (pss_cons (ps_for PassesOwn.never rfl (pi_zipZ (K := K) rfl rfl T.z_zip (pa_cons (pv 3) (pa_cons (pv 2) pa_nil))) (pg_tupZ (K := K) (n := 2) rfl rfl (pgs_cons (pg_name (i := 7) sc_l_packed.nd rfl (by first | exact Or.inl rfl | exact Or.inr rfl)) (pgs_cons (pg_name (i := 8) sc_l_packed.nd rfl (by first | exact Or.inl rfl | exact Or.inr rfl)) pgs_nil))) (pss_cons (ps_set (i := 6) sc_l_packed.nd rfl (by first | exact Or.inl rfl | exact Or.inr rfl) (pe_op (op_addZ (K := K) rfl) (pv 6) (pe_callZ (ok_l_bits T) (hr.mono (by decide)) (by rfl) T.g_l_bits T.F_l_bits.kp T.b_l_bits pass0 (pa_cons (pe_ix (ix_Y (K := K) rfl (hu_of hr)) (pe_ix (ix_Y (K := K) rfl (hu_of hr)) (pv 5) (pv 7) (fun _ _ => rfl)) pe_int (fun _ _ => rfl)) (pa_cons (pe_ix (ix_Y (K := K) rfl (hu_of hr)) (pe_ix (ix_Y (K := K) rfl (hu_of hr)) (pv 5) (pv 7) (fun _ _ => rfl)) pe_int (fun _ _ => rfl)) pa_nil)))))
      (pss_one (ps_if (pt_cmpR (op_eqZ (K := K) rfl hr.units) (pv 7) pe_int (nomark _)) (pss_one (ps_set (i := 6) sc_l_packed.nd rfl (by first | exact Or.inl rfl | exact Or.inr rfl) (pe_op (op_addZ (K := K) rfl) (pe_op (op_addZ (K := K) rfl) (pv 6) (pe_callZ (ok_l_bits T) (hr.mono (by decide)) (by rfl) T.g_l_bits T.F_l_bits.kp T.b_l_bits pass0 (pa_cons (pe_op op_sub (pe_ix (ix_Y (K := K) rfl (hu_of hr)) (pv 8) pe_int (fun _ _ => rfl)) pe_int) (pa_cons pe_int pa_nil)))) (pe_callZ (ok_l_bits T) (hr.mono (by decide)) (by rfl) T.g_l_bits T.F_l_bits.kp T.b_l_bits pass0 (pa_cons (pe_op op_sub (pe_ix (ix_Y (K := K) rfl (hu_of hr)) (pv 8) pe_int (fun _ _ => rfl)) pe_int) (pa_cons pe_int pa_nil)))))) (pss_one (ps_set (i := 6) sc_l_packed.nd rfl (by first | exact Or.inl rfl | exact Or.inr rfl) (pe_op (op_addZ (K := K) rfl) (pv 6) (pe_callZ (ok_l_bits T) (hr.mono (by decide)) (by rfl) T.g_l_bits T.F_l_bits.kp T.b_l_bits pass0 (pa_cons (pe_op op_mod (pe_ix (ix_Y (K := K) rfl (hu_of hr)) (pv 8) pe_int (fun _ _ => rfl)) pe_int) (pa_cons pe_int pa_nil))))))))))
      (pss_one (ps_ret (pe_callZ (ok_l_bytes T) (hr.mono (by decide)) (by rfl) T.g_l_bytes T.F_l_bytes.kp T.b_l_bytes pass0 (pa_cons (pv 6) pa_nil)))))))))),
    fn_run (np := 2) (N := ["_law_row_here", "_law_window", "_law_tokens", "_law_symbols_here", "_law_lengths", "_law_words", "_law_bits_here", "_law_symbol", "_law_token", "_law_length"]) (body := b_l_packed) (by unfold b_l_packed; exact (sv_seq (sv_asg (ei_callN (ev_cons (ei_cb jb_list (ea_cons ei_var ea_nil)) (ev_cons ei_var ev_nil))))
      (sv_seq (sv_asg (ei_callN (ev_cons ei_var ev_nil)))
      (sv_seq (sv_asg (ei_callN (ev_cons (ei_lc (ws := [7]) (jw_rng1 (ea_cons (ei_c cr_int) ea_nil)) sg_name (by decide) et_yes (ei_bm jm_cnt ei_var (ev_cons ei_var ev_nil))) ev_nil)))
      (sv_seq (sv_asg (ei_callN (ev_cons (ei_cb jb_list (ea_cons ei_var ea_nil)) ev_nil)))
      (sv_seq (sv_asg (ei_op j_add (ei_join (ei_c cr_str) (ei_lc (ws := [9]) (jw_list ei_var) sg_name (by decide) et_yes (ei_callN (ev_cons ei_var (ev_cons (ei_c cr_int) ev_nil))))) (ei_c cr_str)))
      (sv_seq (sv_for (jw_zip (ev_cons ei_var (ev_cons ei_var ev_nil))) (sg_tup (sgs_cons sg_name (sgs_cons sg_name sgs_nil))) (sv_seq (sv_asg (ei_op j_add ei_var (ei_callN (ev_cons (ei_op j_ixY (ei_op j_ixY ei_var ei_var) (ei_c cr_int)) (ev_cons (ei_op j_ixY (ei_op j_ixY ei_var ei_var) (ei_c cr_int)) ev_nil)))))
      (sv_if (et_tst (ei_op j_eq ei_var (ei_c cr_int))) (sv_asg (ei_op j_add (ei_op j_add ei_var (ei_callN (ev_cons (ei_op (j_I0 fun _ _ => cr_int) (ei_op j_ixY ei_var (ei_c cr_int)) (ei_c cr_int)) (ev_cons (ei_c cr_int) ev_nil)))) (ei_callN (ev_cons (ei_op (j_I0 fun _ _ => cr_int) (ei_op j_ixY ei_var (ei_c cr_int)) (ei_c cr_int)) (ev_cons (ei_c cr_int) ev_nil))))) (sv_asg (ei_op j_add ei_var (ei_callN (ev_cons (ei_op (j_I fun _ _ => cr_int) (ei_op j_ixY ei_var (ei_c cr_int)) (ei_c cr_int)) (ev_cons (ei_c cr_int) ev_nil))))))))
      (sv_ret (ei_callN (ev_cons ei_var ev_nil)))))))))) h⟩)
@[irreducible] noncomputable def b_l_sum : Ms :=
  (mSeq (mAsg 1 (mC (.int 65535)))
  (mSeq (mFor (mWL (mName 0)) (tgN 2) (mSeq (mAsg 1 (mOp (fI0 fun i j => .int (Builtin.bitXor i j)) (mName 1) (mOp (fI CShl fun i j => .int (i * 2 ^ j.toNat)) (mName 2) (mC (.int 8)))))
  (mFor (mRng1 (aCons (mC (.int 8)) aNil)) (tgN 3) (mSeq (mAsg 1 (mOp (fI CShl fun i j => .int (i * 2 ^ j.toNat)) (mName 1) (mC (.int 1))))
  (mIfS (mBl (mOp (fI0 fun i j => .bl (decide (j < i))) (mName 1) (mC (.int 65535)))) (mAsg 1 (mOp (fI0 fun i j => .int (Builtin.bitAnd i j)) (mOp (fI0 fun i j => .int (Builtin.bitXor i j)) (mName 1) (mC (.int 4129))) (mC (.int 65535)))) mNext)))))
  (mRet (mLst (vCons (mOp (fI CDiv fun i j => .int (i / j)) (mName 1) (mC (.int 256))) (vCons (mOp (fI (fun _ j => 0 < j) fun i j => .int (i % j)) (mName 1) (mC (.int 256))) vNil))))))
noncomputable def m_l_sum : Mf := mFn 1 4 b_l_sum
theorem ok_l_sum {P : Program} {w : World} {K : PySem.W.Frag} {mg : Str → Option Value} {base : Heap} (T : Tx K mg) : FnOk P w K mg base CX0 1 T.a_l_sum T.d_l_sum ["_law_row_here"] (spM K (ctT T) m_l_sum) :=
  T.F_l_sum.ok sc_l_sum (fun vs H Q E h => sp_len h) (fun cdv A outer s H vs Q E hr h => ⟨_, (pss_cons (ps_set (i := 1) sc_l_sum.nd rfl (by first | exact Or.inl rfl | exact Or.inr rfl) pe_int)
      (pss_cons (ps_for PassesOwn.never rfl (pi_listZ (K := K) rfl (pv 0)) (pg_name (i := 2) sc_l_sum.nd rfl (by first | exact Or.inl rfl | exact Or.inr rfl)) (pss_cons (ps_set (i := 1) sc_l_sum.nd rfl (by first | exact Or.inl rfl | exact Or.inr rfl) (pe_op op_xor (pv 1) (pe_op op_shlW (pv 2) pe_int)))
      (pss_one (ps_for PassesOwn.never rfl (pi_range1 rfl T.z_range (pa_cons pe_int pa_nil)) (pg_name (i := 3) sc_l_sum.nd rfl (by first | exact Or.inl rfl | exact Or.inr rfl)) (pss_cons (ps_set (i := 1) sc_l_sum.nd rfl (by first | exact Or.inl rfl | exact Or.inr rfl) (pe_op op_shlW (pv 1) pe_int))
      (pss_one (ps_if (pt_cmpR op_gt (pv 1) pe_int (nomark _)) (pss_one (ps_set (i := 1) sc_l_sum.nd rfl (by first | exact Or.inl rfl | exact Or.inr rfl) (pe_op op_and (pe_op op_xor (pv 1) pe_int) pe_int))) pss_nil)))))))
      (pss_one (ps_ret (pe_lst (pa_cons (pe_op op_fdiv (pv 1) pe_int) (pa_cons (pe_op op_mod (pv 1) pe_int) pa_nil))))))),
    fn_run (np := 1) (N := ["_law_row_here", "_law_found", "_law_byte", "_law_k"]) (body := b_l_sum) (by unfold b_l_sum; exact (sv_seq (sv_asg (ei_c cr_int))
      (sv_seq (sv_for (jw_list ei_var) sg_name (sv_seq (sv_asg (ei_op (j_I0 fun _ _ => cr_int) ei_var (ei_op (j_I fun _ _ => cr_int) ei_var (ei_c cr_int))))
      (sv_for (jw_rng1 (ea_cons (ei_c cr_int) ea_nil)) sg_name (sv_seq (sv_asg (ei_op (j_I fun _ _ => cr_int) ei_var (ei_c cr_int)))
      (sv_if (et_tst (ei_op (j_I0 fun _ _ => cr_bl) ei_var (ei_c cr_int))) (sv_asg (ei_op (j_I0 fun _ _ => cr_int) (ei_op (j_I0 fun _ _ => cr_int) ei_var (ei_c cr_int)) (ei_c cr_int))) sv_next)))))
      (sv_ret (ei_lst (ev_cons (ei_op (j_I fun _ _ => cr_int) ei_var (ei_c cr_int)) (ev_cons (ei_op (j_I fun _ _ => cr_int) ei_var (ei_c cr_int)) ev_nil))))))) h⟩)
@[irreducible] noncomputable def b_l_due : Ms :=
  (mSeq (mAsg 4 (mOp fAdd (mLst (vCons (mC (.int 0)) (vCons (mName 0) (vCons (mName 1) (vCons (mCB fLen (aCons (mName 2) aNil)) vNil))))) (mName 2)))
  (mSeq (mIfS (mBl (mOp fNe (mName 2) (mLst vNil))) (mSeq (mAsg 5 (mCallN m_l_packed (vCons (mName 2) (vCons (mName 3) vNil))))
  (mIfS (mBl (mOp (fI0 fun i j => .bl (decide (i < j))) (mCB fLen (aCons (mName 5) aNil)) (mCB fLen (aCons (mName 2) aNil)))) (mAsg 4 (mOp fAdd (mLst (vCons (mC (.int 1)) (vCons (mName 0) (vCons (mName 1) (vCons (mCB fLen (aCons (mName 2) aNil)) vNil))))) (mName 5))) mNext)) mNext)
  (mRet (mOp fAdd (mOp fAdd (mLst (vCons (mC (.int 165)) (vCons (mC (.int 90)) vNil))) (mName 4)) (mCallN m_l_sum (vCons (mName 4) vNil))))))
noncomputable def m_l_due : Mf := mFn 4 6 b_l_due
theorem ok_l_due {P : Program} {w : World} {K : PySem.W.Frag} {mg : Str → Option Value} {base : Heap} (T : Tx K mg) : FnOk P w K mg base CX0 8 T.a_l_due T.d_l_due ["_law_text", "_law_number", "_law_row_here", "_law_window"] (spM K (ctT T) m_l_due) :=
  T.F_l_due.ok sc_l_due (fun vs H Q E h => sp_len h) (fun cdv A outer s H vs Q E hr h => ⟨_, (pss_cons (ps_set (i := 4) sc_l_due.nd rfl (by first | exact Or.inl rfl | exact Or.inr rfl) (pe_op (op_addZ (K := K) rfl) (pe_lst (pa_cons pe_int (pa_cons (pv 0) (pa_cons (pv 1) (pa_cons (pe_callB (call_lenY (K := K) rfl) (by rfl) T.z_len PySem.boot_len (pa_cons (pv 2) pa_nil)) pa_nil))))) (pv 2)))
      (pss_cons (ps_if (pt_cmpR (op_neZ (K := K) rfl hr.units) (pv 2) (pe_lst pa_nil) (nomark _)) (pss_cons (ps_set (i := 5) sc_l_due.nd rfl (by first | exact Or.inl rfl | exact Or.inr rfl) (pe_callZ (ok_l_packed T) (hr.mono (by decide)) (by rfl) T.g_l_packed T.F_l_packed.kp T.b_l_packed pass0 (pa_cons (pv 2) (pa_cons (pv 3) pa_nil))))
      (pss_one (ps_if (pt_cmpR op_lt (pe_callB (call_lenY (K := K) rfl) (by rfl) T.z_len PySem.boot_len (pa_cons (pv 5) pa_nil)) (pe_callB (call_lenY (K := K) rfl) (by rfl) T.z_len PySem.boot_len (pa_cons (pv 2) pa_nil)) (nomark _)) (pss_one (ps_set (i := 4) sc_l_due.nd rfl (by first | exact Or.inl rfl | exact Or.inr rfl) (pe_op (op_addZ (K := K) rfl) (pe_lst (pa_cons pe_int (pa_cons (pv 0) (pa_cons (pv 1) (pa_cons (pe_callB (call_lenY (K := K) rfl) (by rfl) T.z_len PySem.boot_len (pa_cons (pv 2) pa_nil)) pa_nil))))) (pv 5)))) pss_nil))) pss_nil)
      (pss_one (ps_ret (pe_op (op_addZ (K := K) rfl) (pe_op (op_addZ (K := K) rfl) (pe_lst (pa_cons pe_int (pa_cons pe_int pa_nil))) (pv 4)) (pe_callZ (ok_l_sum T) (hr.mono (by decide)) (by rfl) T.g_l_sum T.F_l_sum.kp T.b_l_sum pass0 (pa_cons (pv 4) pa_nil))))))),
    fn_run (np := 4) (N := ["_law_text", "_law_number", "_law_row_here", "_law_window", "_law_told", "_law_body"]) (body := b_l_due) (by unfold b_l_due; exact (sv_seq (sv_asg (ei_op j_add (ei_lst (ev_cons (ei_c cr_int) (ev_cons ei_var (ev_cons ei_var (ev_cons (ei_cb jb_len (ea_cons ei_var ea_nil)) ev_nil))))) ei_var))
      (sv_seq (sv_if (et_tst (ei_op j_ne ei_var (ei_lst ev_nil))) (sv_seq (sv_asg (ei_callN (ev_cons ei_var (ev_cons ei_var ev_nil))))
      (sv_if (et_tst (ei_op (j_I0 fun _ _ => cr_bl) (ei_cb jb_len (ea_cons ei_var ea_nil)) (ei_cb jb_len (ea_cons ei_var ea_nil)))) (sv_asg (ei_op j_add (ei_lst (ev_cons (ei_c cr_int) (ev_cons ei_var (ev_cons ei_var (ev_cons (ei_cb jb_len (ea_cons ei_var ea_nil)) ev_nil))))) ei_var)) sv_next)) sv_next)
      (sv_ret (ei_op j_add (ei_op j_add (ei_lst (ev_cons (ei_c cr_int) (ev_cons (ei_c cr_int) ev_nil))) ei_var) (ei_callN (ev_cons ei_var ev_nil))))))) h⟩)
@[irreducible] noncomputable def b_l_next : Ms :=
  (mSeq (mAsgS (mName 0) (mC (.int 1)) (mOp (fI (fun _ j => 0 < j) fun i j => .int (i % j)) (mOp fAdd (mOp fMul (mOp fIxY (mName 0) (mC (.int 1))) (mC (.int 48271))) (mC (.int 11))) (mC (.int 2147483647))))
  (mSeq (mIfS (mBl (mOp (fI0 fun i j => .bl (decide (j < i))) (mOp fIxY (mName 0) (mC (.int 0))) (mC (.int 0)))) (mSeq (mAsg 2 (mOp (fI (fun _ j => 0 < j) fun i j => .int (i % j)) (mOp fIxY (mName 0) (mC (.int 0))) (mName 1)))
  (mSeq (mAsgS (mName 0) (mC (.int 0)) (mOp (fI CDiv fun i j => .int (i / j)) (mOp fIxY (mName 0) (mC (.int 0))) (mName 1)))
  (mRet (mName 2)))) mNext)
  (mSeq (mAsg 3 (mOp (fI (fun _ j => 0 < j) fun i j => .int (i % j)) (mOp fMul (mOp fIxY (mName 0) (mC (.int 1))) (mOp fAdd (mOp (fI CDiv fun i j => .int (i / j)) (mOp fIxY (mName 0) (mC (.int 1))) (mC (.int 1009))) (mC (.int 69621)))) (mC (.int 2147483647))))
  (mRet (mOp (fI (fun _ j => 0 < j) fun i j => .int (i % j)) (mOp (fI (fun _ j => 0 < j) fun i j => .int (i % j)) (mOp fMul (mName 3) (mOp fAdd (mOp (fI CDiv fun i j => .int (i / j)) (mName 3) (mC (.int 757))) (mC (.int 16807)))) (mC (.int 2147483629))) (mName 1))))))
noncomputable def m_l_next : Mf := mFn 2 4 b_l_next
theorem ok_l_next {P : Program} {w : World} {K : PySem.W.Frag} {mg : Str → Option Value} {base : Heap} (T : Tx K mg) : FnOk P w K mg base CX0 1 T.a_l_next T.d_l_next ["_law_draw_here", "_law_size"] (spM K (ctT T) m_l_next) :=
  T.F_l_next.ok sc_l_next (fun vs H Q E h => sp_len h) (fun cdv A outer s H vs Q E hr h => ⟨_, (pss_cons (ps_asg (pe_op op_mod (pe_op (op_addZ (K := K) rfl) (pe_op op_mulZ (pe_ix (ix_Y (K := K) rfl (hu_of hr)) (pv 0) pe_int (fun _ _ => rfl)) pe_int) pe_int) pe_int) (pg_sub (pv 0) pe_int (set_Y (hu_of hr))))
      (pss_cons (ps_if (pt_cmpR op_gt (pe_ix (ix_Y (K := K) rfl (hu_of hr)) (pv 0) pe_int (fun _ _ => rfl)) pe_int (nomark _)) (pss_cons (ps_set (i := 2) sc_l_next.nd rfl (by first | exact Or.inl rfl | exact Or.inr rfl) (pe_op op_mod (pe_ix (ix_Y (K := K) rfl (hu_of hr)) (pv 0) pe_int (fun _ _ => rfl)) (pv 1)))
      (pss_cons (ps_asg (pe_op op_fdiv (pe_ix (ix_Y (K := K) rfl (hu_of hr)) (pv 0) pe_int (fun _ _ => rfl)) (pv 1)) (pg_sub (pv 0) pe_int (set_Y (hu_of hr))))
      (pss_one (ps_ret (pv 2))))) pss_nil)
      (pss_cons (ps_set (i := 3) sc_l_next.nd rfl (by first | exact Or.inl rfl | exact Or.inr rfl) (pe_op op_mod (pe_op op_mulZ (pe_ix (ix_Y (K := K) rfl (hu_of hr)) (pv 0) pe_int (fun _ _ => rfl)) (pe_op (op_addZ (K := K) rfl) (pe_op op_fdiv (pe_ix (ix_Y (K := K) rfl (hu_of hr)) (pv 0) pe_int (fun _ _ => rfl)) pe_int) pe_int)) pe_int))
      (pss_one (ps_ret (pe_op op_mod (pe_op op_mod (pe_op op_mulZ (pv 3) (pe_op (op_addZ (K := K) rfl) (pe_op op_fdiv (pv 3) pe_int) pe_int)) pe_int) (pv 1))))))),
    fn_run (np := 2) (N := ["_law_draw_here", "_law_size", "_law_digit", "_law_number"]) (body := b_l_next) (by unfold b_l_next; exact (sv_seq (sv_asgS (ei_op (j_I fun _ _ => cr_int) (ei_op j_add (ei_op j_mul (ei_op j_ixY ei_var (ei_c cr_int)) (ei_c cr_int)) (ei_c cr_int)) (ei_c cr_int)) ei_var (ei_c cr_int))
      (sv_seq (sv_if (et_tst (ei_op (j_I0 fun _ _ => cr_bl) (ei_op j_ixY ei_var (ei_c cr_int)) (ei_c cr_int))) (sv_seq (sv_asg (ei_op (j_I fun _ _ => cr_int) (ei_op j_ixY ei_var (ei_c cr_int)) ei_var))
      (sv_seq (sv_asgS (ei_op (j_I fun _ _ => cr_int) (ei_op j_ixY ei_var (ei_c cr_int)) ei_var) ei_var (ei_c cr_int))
      (sv_ret ei_var))) sv_next)
      (sv_seq (sv_asg (ei_op (j_I fun _ _ => cr_int) (ei_op j_mul (ei_op j_ixY ei_var (ei_c cr_int)) (ei_op j_add (ei_op (j_I fun _ _ => cr_int) (ei_op j_ixY ei_var (ei_c cr_int)) (ei_c cr_int)) (ei_c cr_int))) (ei_c cr_int)))
      (sv_ret (ei_op (j_I fun _ _ => cr_int) (ei_op (j_I fun _ _ => cr_int) (ei_op j_mul ei_var (ei_op j_add (ei_op (j_I fun _ _ => cr_int) ei_var (ei_c cr_int)) (ei_c cr_int))) (ei_c cr_int)) ei_var)))))) h⟩)
@[irreducible] noncomputable def b_l_row : Ms :=
  (mSeq (mAsg 1 (mLst (vCons (mC (.int 0)) (vCons (mC (.int 1)) (vCons (mC (.int 2)) (vCons (mC (.int 17)) (vCons (mC (.int 18)) (vCons (mC (.int 19)) (vCons (mC (.int 20)) (vCons (mC (.int 30)) (vCons (mC (.int 60)) (vCons (mC (.int 100)) (vCons (mC (.int 180)) (vCons (mC (.int 254)) (vCons (mC (.int 255)) vNil)))))))))))))))
  (mSeq (mAsg 2 (mOp fIxY (mName 1) (mCallN m_l_next (vCons (mName 0) (vCons (mC (.int 13)) vNil)))))
  (mSeq (mAsg 3 (mCallN m_l_next (vCons (mName 0) (vCons (mC (.int 6)) vNil))))
  (mSeq (mAsg 4 (mCallN m_l_next (vCons (mName 0) (vCons (mC (.int 256)) vNil))))
  (mSeq (mAsg 5 (mLst vNil))
  (mSeq (mFor (mRng1 (aCons (mName 2) aNil)) (tgN 6) (mIfS (mBl (mOp fEq (mName 3) (mC (.int 0)))) (mDrop (mBM fApp (mName 5) (vCons (mCallN m_l_next (vCons (mName 0) (vCons (mC (.int 256)) vNil))) vNil))) (mIfS (mBl (mOp fEq (mName 3) (mC (.int 1)))) (mDrop (mBM fApp (mName 5) (vCons (mOp (fI (fun _ j => 0 < j) fun i j => .int (i % j)) (mOp fAdd (mName 4) (mCallN m_l_next (vCons (mName 0) (vCons (mC (.int 4)) vNil)))) (mC (.int 256))) vNil))) (mIfS (mAnd (mBl (mOp fEq (mName 3) (mC (.int 2)))) (mAnd (mBl (mOp (fI0 fun i j => .bl (decide (j < i))) (mCB fLen (aCons (mName 5) aNil)) (mC (.int 2)))) (mBl (mOp (fI0 fun i j => .bl (decide (j < i))) (mCallN m_l_next (vCons (mName 0) (vCons (mC (.int 8)) vNil))) (mC (.int 0)))))) (mDrop (mBM fApp (mName 5) (vCons (mOp fIxY (mName 5) (mOp (fI0 fun i j => .int (i - j)) (mOp (fI0 fun i j => .int (i - j)) (mCB fLen (aCons (mName 5) aNil)) (mC (.int 1))) (mOp (fI (fun _ j => 0 < j) fun i j => .int (i % j)) (mName 4) (mCB (fI2 min) (aCons (mC (.int 7)) (aCons (mCB fLen (aCons (mName 5) aNil)) aNil)))))) vNil))) (mIfS (mBl (mOp fEq (mName 3) (mC (.int 3)))) (mDrop (mBM fApp (mName 5) (vCons (mName 4) vNil))) (mIfS (mBl (mOp fEq (mName 3) (mC (.int 4)))) (mDrop (mBM fApp (mName 5) (vCons (mOp fIxY (mLst (vCons (mC (.int 32)) (vCons (mC (.int 97)) (vCons (mC (.int 98)) (vCons (mC (.int 99)) (vCons (mC (.int 165)) (vCons (mC (.int 90)) (vCons (mC (.int 91)) vNil)))))))) (mCallN m_l_next (vCons (mName 0) (vCons (mC (.int 7)) vNil)))) vNil))) (mDrop (mBM fApp (mName 5) (vCons (mOp (fI (fun _ j => 0 < j) fun i j => .int (i % j)) (mOp fAdd (mName 4) (mOp fMul (mC (.int 8)) (mOp fMul (mOp (fI CDiv fun i j => .int (i / j)) (mCallN m_l_next (vCons (mName 0) (vCons (mC (.int 64)) vNil))) (mC (.int 8))) (mCallN m_l_next (vCons (mName 0) (vCons (mC (.int 2)) vNil)))))) (mC (.int 256))) vNil)))))))))
  (mRet (mName 5))))))))
noncomputable def m_l_row : Mf := mFn 1 7 b_l_row
theorem ok_l_row {P : Program} {w : World} {K : PySem.W.Frag} {mg : Str → Option Value} {base : Heap} (T : Tx K mg) : FnOk P w K mg base CX0 2 T.a_l_row T.d_l_row ["_law_draw_here"] (spM K (ctT T) m_l_row) :=
  T.F_l_row.ok sc_l_row (fun vs H Q E h => sp_len h) (fun cdv A outer s H vs Q E hr h => ⟨_, (pss_cons (ps_set (i := 1) sc_l_row.nd rfl (by first | exact Or.inl rfl | exact Or.inr rfl) (pe_lst (pa_cons pe_int (pa_cons pe_int (pa_cons pe_int (pa_cons pe_int (pa_cons pe_int (pa_cons pe_int (pa_cons pe_int (pa_cons pe_int (pa_cons pe_int (pa_cons pe_int (pa_cons pe_int (pa_cons pe_int (pa_cons pe_int pa_nil)))))))))))))))
      (pss_cons (ps_set (i := 2) sc_l_row.nd rfl (by first | exact Or.inl rfl | exact Or.inr rfl) (pe_ix (ix_Y (K := K) rfl (hu_of hr)) (pv 1) (pe_callZ (ok_l_next T) (hr.mono (by decide)) (by rfl) T.g_l_next T.F_l_next.kp T.b_l_next pass0 (pa_cons (pv 0) (pa_cons pe_int pa_nil))) (fun _ _ => rfl)))
      (pss_cons (ps_set (i := 3) sc_l_row.nd rfl (by first | exact Or.inl rfl | exact Or.inr rfl) (pe_callZ (ok_l_next T) (hr.mono (by decide)) (by rfl) T.g_l_next T.F_l_next.kp T.b_l_next pass0 (pa_cons (pv 0) (pa_cons pe_int pa_nil))))
      (pss_cons (ps_set (i := 4) sc_l_row.nd rfl (by first | exact Or.inl rfl | exact Or.inr rfl) (pe_callZ (ok_l_next T) (hr.mono (by decide)) (by rfl) T.g_l_next T.F_l_next.kp T.b_l_next pass0 (pa_cons (pv 0) (pa_cons pe_int pa_nil))))
      (pss_cons (ps_set (i := 5) sc_l_row.nd rfl (by first | exact Or.inl rfl | exact Or.inr rfl) (pe_lst pa_nil))
      (pss_cons (ps_for PassesOwn.never rfl (pi_range1 rfl T.z_range (pa_cons (pv 2) pa_nil)) (pg_name (i := 6) sc_l_row.nd rfl (by first | exact Or.inl rfl | exact Or.inr rfl)) (pss_one (ps_if (pt_cmpR (op_eqZ (K := K) rfl hr.units) (pv 3) pe_int (nomark _)) (pss_one (ps_expr (pe_bmZ (K := K) rfl PySem.F.plainAttrs_list PySem.F.slot_list_append PySem.F.type_list_append mt_append (pv 5) (pa_cons (pe_callZ (ok_l_next T) (hr.mono (by decide)) (by rfl) T.g_l_next T.F_l_next.kp T.b_l_next pass0 (pa_cons (pv 0) (pa_cons pe_int pa_nil))) pa_nil)))) (pss_one (ps_if (pt_cmpR (op_eqZ (K := K) rfl hr.units) (pv 3) pe_int (nomark _)) (pss_one (ps_expr (pe_bmZ (K := K) rfl PySem.F.plainAttrs_list PySem.F.slot_list_append PySem.F.type_list_append mt_append (pv 5) (pa_cons (pe_op op_mod (pe_op (op_addZ (K := K) rfl) (pv 4) (pe_callZ (ok_l_next T) (hr.mono (by decide)) (by rfl) T.g_l_next T.F_l_next.kp T.b_l_next pass0 (pa_cons (pv 0) (pa_cons pe_int pa_nil)))) pe_int) pa_nil)))) (pss_one (ps_if (PW.pt (pw_and (pt_cmpR (op_eqZ (K := K) rfl hr.units) (pv 3) pe_int (nomark _)) (pw_and (pt_cmpR op_gt (pe_callB (call_lenY (K := K) rfl) (by rfl) T.z_len PySem.boot_len (pa_cons (pv 5) pa_nil)) pe_int (nomark _)) (pw_and1 (pt_cmpR op_gt (pe_callZ (ok_l_next T) (hr.mono (by decide)) (by rfl) T.g_l_next T.F_l_next.kp T.b_l_next pass0 (pa_cons (pv 0) (pa_cons pe_int pa_nil))) pe_int (nomark _)))))) (pss_one (ps_expr (pe_bmZ (K := K) rfl PySem.F.plainAttrs_list PySem.F.slot_list_append PySem.F.type_list_append mt_append (pv 5) (pa_cons (pe_ix (ix_Y (K := K) rfl (hu_of hr)) (pv 5) (pe_op op_sub (pe_op op_sub (pe_callB (call_lenY (K := K) rfl) (by rfl) T.z_len PySem.boot_len (pa_cons (pv 5) pa_nil)) pe_int) (pe_op op_mod (pv 4) (pe_callB (call_min2Z rfl) (by rfl) T.z_min (by decide +kernel) (pa_cons pe_int (pa_cons (pe_callB (call_lenY (K := K) rfl) (by rfl) T.z_len PySem.boot_len (pa_cons (pv 5) pa_nil)) pa_nil))))) (fun _ _ => rfl)) pa_nil)))) (pss_one (ps_if (pt_cmpR (op_eqZ (K := K) rfl hr.units) (pv 3) pe_int (nomark _)) (pss_one (ps_expr (pe_bmZ (K := K) rfl PySem.F.plainAttrs_list PySem.F.slot_list_append PySem.F.type_list_append mt_append (pv 5) (pa_cons (pv 4) pa_nil)))) (pss_one (ps_if (pt_cmpR (op_eqZ (K := K) rfl hr.units) (pv 3) pe_int (nomark _)) (pss_one (ps_expr (pe_bmZ (K := K) rfl PySem.F.plainAttrs_list PySem.F.slot_list_append PySem.F.type_list_append mt_append (pv 5) (pa_cons (pe_ix (ix_Y (K := K) rfl (hu_of hr)) (pe_lst (pa_cons pe_int (pa_cons pe_int (pa_cons pe_int (pa_cons pe_int (pa_cons pe_int (pa_cons pe_int (pa_cons pe_int pa_nil)))))))) (pe_callZ (ok_l_next T) (hr.mono (by decide)) (by rfl) T.g_l_next T.F_l_next.kp T.b_l_next pass0 (pa_cons (pv 0) (pa_cons pe_int pa_nil))) (fun _ _ => rfl)) pa_nil)))) (pss_one (ps_expr (pe_bmZ (K := K) rfl PySem.F.plainAttrs_list PySem.F.slot_list_append PySem.F.type_list_append mt_append (pv 5) (pa_cons (pe_op op_mod (pe_op (op_addZ (K := K) rfl) (pv 4) (pe_op op_mulZ pe_int (pe_op op_mulZ (pe_op op_fdiv (pe_callZ (ok_l_next T) (hr.mono (by decide)) (by rfl) T.g_l_next T.F_l_next.kp T.b_l_next pass0 (pa_cons (pv 0) (pa_cons pe_int pa_nil))) pe_int) (pe_callZ (ok_l_next T) (hr.mono (by decide)) (by rfl) T.g_l_next T.F_l_next.kp T.b_l_next pass0 (pa_cons (pv 0) (pa_cons pe_int pa_nil)))))) pe_int) pa_nil)))))))))))))))
      (pss_one (ps_ret (pv 5))))))))),
    fn_run (np := 1) (N := ["_law_draw_here", "_law_sizes", "_law_size", "_law_way", "_law_low", "_law_row_here", "_law_k"]) (body := b_l_row) (by unfold b_l_row; exact (sv_seq (sv_asg (ei_lst (ev_cons (ei_c cr_int) (ev_cons (ei_c cr_int) (ev_cons (ei_c cr_int) (ev_cons (ei_c cr_int) (ev_cons (ei_c cr_int) (ev_cons (ei_c cr_int) (ev_cons (ei_c cr_int) (ev_cons (ei_c cr_int) (ev_cons (ei_c cr_int) (ev_cons (ei_c cr_int) (ev_cons (ei_c cr_int) (ev_cons (ei_c cr_int) (ev_cons (ei_c cr_int) ev_nil)))))))))))))))
      (sv_seq (sv_asg (ei_op j_ixY ei_var (ei_callN (ev_cons ei_var (ev_cons (ei_c cr_int) ev_nil)))))
      (sv_seq (sv_asg (ei_callN (ev_cons ei_var (ev_cons (ei_c cr_int) ev_nil))))
      (sv_seq (sv_asg (ei_callN (ev_cons ei_var (ev_cons (ei_c cr_int) ev_nil))))
      (sv_seq (sv_asg (ei_lst ev_nil))
      (sv_seq (sv_for (jw_rng1 (ea_cons ei_var ea_nil)) sg_name (sv_if (et_tst (ei_op j_eq ei_var (ei_c cr_int))) (sv_drop (ei_bm jm_app ei_var (ev_cons (ei_callN (ev_cons ei_var (ev_cons (ei_c cr_int) ev_nil))) ev_nil))) (sv_if (et_tst (ei_op j_eq ei_var (ei_c cr_int))) (sv_drop (ei_bm jm_app ei_var (ev_cons (ei_op (j_I fun _ _ => cr_int) (ei_op j_add ei_var (ei_callN (ev_cons ei_var (ev_cons (ei_c cr_int) ev_nil)))) (ei_c cr_int)) ev_nil))) (sv_if (et_and (et_tst (ei_op j_eq ei_var (ei_c cr_int))) (et_and (et_tst (ei_op (j_I0 fun _ _ => cr_bl) (ei_cb jb_len (ea_cons ei_var ea_nil)) (ei_c cr_int))) (et_tst (ei_op (j_I0 fun _ _ => cr_bl) (ei_callN (ev_cons ei_var (ev_cons (ei_c cr_int) ev_nil))) (ei_c cr_int))))) (sv_drop (ei_bm jm_app ei_var (ev_cons (ei_op j_ixY ei_var (ei_op (j_I0 fun _ _ => cr_int) (ei_op (j_I0 fun _ _ => cr_int) (ei_cb jb_len (ea_cons ei_var ea_nil)) (ei_c cr_int)) (ei_op (j_I fun _ _ => cr_int) ei_var (ei_cb jb_min2 (ea_cons (ei_c cr_int) (ea_cons (ei_cb jb_len (ea_cons ei_var ea_nil)) ea_nil)))))) ev_nil))) (sv_if (et_tst (ei_op j_eq ei_var (ei_c cr_int))) (sv_drop (ei_bm jm_app ei_var (ev_cons ei_var ev_nil))) (sv_if (et_tst (ei_op j_eq ei_var (ei_c cr_int))) (sv_drop (ei_bm jm_app ei_var (ev_cons (ei_op j_ixY (ei_lst (ev_cons (ei_c cr_int) (ev_cons (ei_c cr_int) (ev_cons (ei_c cr_int) (ev_cons (ei_c cr_int) (ev_cons (ei_c cr_int) (ev_cons (ei_c cr_int) (ev_cons (ei_c cr_int) ev_nil)))))))) (ei_callN (ev_cons ei_var (ev_cons (ei_c cr_int) ev_nil)))) ev_nil))) (sv_drop (ei_bm jm_app ei_var (ev_cons (ei_op (j_I fun _ _ => cr_int) (ei_op j_add ei_var (ei_op j_mul (ei_c cr_int) (ei_op j_mul (ei_op (j_I fun _ _ => cr_int) (ei_callN (ev_cons ei_var (ev_cons (ei_c cr_int) ev_nil))) (ei_c cr_int)) (ei_callN (ev_cons ei_var (ev_cons (ei_c cr_int) ev_nil)))))) (ei_c cr_int)) ev_nil)))))))))
      (sv_ret ei_var)))))))) h⟩)
@[irreducible] noncomputable def b_Writer_init : Ms :=
  (mSeq (mFldS (fun c => c == 4) "full" (mName 0) (mLst vNil))
  (mSeq (mFldS (fun c => c == 4) "begun" (mName 0) (mC (.int 0)))
  (mFldS (fun c => c == 4) "many" (mName 0) (mC (.int 0)))))
noncomputable def m_Writer_init : Mf := mFn 1 1 b_Writer_init
theorem ok_Writer_init {P : Program} {w : World} {K : PySem.W.Frag} {mg : Str → Option Value} {base : Heap} (T : Tx K mg) : FnOk P w K mg base CX0 1 T.a_Writer_init T.d_Writer_init ["self"] (spM K (ctT T) m_Writer_init) :=
  T.F_Writer_init.ok sc_Writer_init (fun vs H Q E h => sp_len h) (fun cdv A outer s H vs Q E hr h => ⟨_, (pss_cons (ps_fldZ (K := K) rfl (pv 0) (pe_lst pa_nil) rfl)
      (pss_cons (ps_fldZ (K := K) rfl (pv 0) pe_int rfl)
      (pss_one (ps_fldZ (K := K) rfl (pv 0) pe_int rfl)))),
    fn_run (np := 1) (N := ["self"]) (body := b_Writer_init) (by unfold b_Writer_init; exact (sv_seq (sv_fld (ok := (fun c => c == 4)) (okc1 ⟨T.cl_Writer, T.n_Writer_full⟩) ei_var (ei_lst ev_nil))
      (sv_seq (sv_fld (ok := (fun c => c == 4)) (okc1 ⟨T.cl_Writer, T.n_Writer_begun⟩) ei_var (ei_c cr_int))
      (sv_fld (ok := (fun c => c == 4)) (okc1 ⟨T.cl_Writer, T.n_Writer_many⟩) ei_var (ei_c cr_int))))) h⟩)
@[irreducible] noncomputable def b_is_whole_bits : Ms :=
  (mRet (mAndV (mCB fIsi (aCons (mName 0) (aCons (mC (.ty "int")) aNil))) (mNotV (mCB fIsi (aCons (mName 0) (aCons (mC (.ty "bool")) aNil))))))
noncomputable def m_is_whole_bits : Mf := mFn 1 1 b_is_whole_bits
theorem ok_is_whole_bits {P : Program} {w : World} {K : PySem.W.Frag} {mg : Str → Option Value} {base : Heap} (T : Tx K mg) : FnOk P w K mg base CX0 1 T.a_is_whole_bits T.d_is_whole_bits ["thing"] (spM K (ctT T) m_is_whole_bits) :=
  T.F_is_whole_bits.ok sc_is_whole_bits (fun vs H Q E h => sp_len h) (fun cdv A outer s H vs Q E hr h => ⟨_, (pss_one (ps_ret (pe_and (pe_callB (call_isiZ (K := K) rfl) (by rfl) T.z_isinstance (by decide +kernel) (pa_cons (pv 0) (pa_cons (pe_bltn (v := .ty "int") rfl T.z_int (by decide +kernel) rfl) pa_nil))) (pe_one (pe_not (pe_callB (call_isiZ (K := K) rfl) (by rfl) T.z_isinstance (by decide +kernel) (pa_cons (pv 0) (pa_cons (pe_bltn (v := .ty "bool") rfl T.z_bool (by decide +kernel) rfl) pa_nil)))))))),
    fn_run (np := 1) (N := ["thing"]) (body := b_is_whole_bits) (by unfold b_is_whole_bits; exact (sv_ret (ei_andV (ei_cb jb_isi (ea_cons ei_var (ea_cons (ei_c cr_ty) ea_nil))) (ei_notV (ei_cb jb_isi (ea_cons ei_var (ea_cons (ei_c cr_ty) ea_nil))))))) h⟩)
@[irreducible] noncomputable def b_refuse_unless : Ms :=
  (mIfS (mNot (mTru (mName 0))) (mRaise 1) mNext)
noncomputable def m_refuse_unless : Mf := mFn 1 1 b_refuse_unless
theorem ok_refuse_unless {P : Program} {w : World} {K : PySem.W.Frag} {mg : Str → Option Value} {base : Heap} (T : Tx K mg) : FnOk P w K mg base (L2.CX P w) 3 T.a_refuse_unless T.d_refuse_unless ["good"] (spM K (ctT T) m_refuse_unless) :=
  T.F_refuse_unless.okX sc_refuse_unless (fun vs H Q E h => sp_len h) (fun cdv A outer s H vs Q E hr h => ⟨_, (pss_one (ps_if (pt_not (pt_truthZ (K := K) rfl (pv 0) (by intro _; rfl))) (pss_one (ps_raiseZ rfl (takes_of rfl rfl rfl rfl) PySem.F.excBase_ValueError T.x_BadBits T.g_BadBits T.k_BadBits (raises_own T.b_BadBits T.t_BadBits) (by rfl))) pss_nil)),
    fn_run (np := 1) (N := ["good"]) (body := b_refuse_unless) (by unfold b_refuse_unless; exact (sv_if (et_not (et_tru ei_var)) (sv_raise (c := 1)) sv_next)) h⟩)
@[irreducible] noncomputable def b_Writer_put : Ms :=
  (mSeq (mDrop (mCall m_refuse_unless (vCons (mAndV (mCallN m_is_whole_bits (vCons (mName 2) vNil)) (mChain (fI0 fun i j => .bl (decide (i ≤ j))) (fI0 fun i j => .bl (decide (i ≤ j))) (mC (.int 0)) (mName 2) (mC (.int 64)))) vNil)))
  (mSeq (mDrop (mCall m_refuse_unless (vCons (mAndV (mCallN m_is_whole_bits (vCons (mName 1) vNil)) (mChain (fI0 fun i j => .bl (decide (i ≤ j))) (fI0 fun i j => .bl (decide (i < j))) (mC (.int 0)) (mName 1) (mOp (fI CShl fun i j => .int (i * 2 ^ j.toNat)) (mC (.int 1)) (mName 2)))) vNil)))
  (mFor (mRng3 (aCons (mOp (fI0 fun i j => .int (i - j)) (mName 2) (mC (.int 1))) (aCons (mUn fNeg (mC (.int 1))) (aCons (mUn fNeg (mC (.int 1))) aNil)))) (tgN 3) (mSeq (mFldS (fun c => c == 4) "begun" (mName 0) (mOp fAdd (mOp fMul (mC (.int 2)) (mFld (fun c => c == 4) "begun" (mName 0))) (mOp (fI0 fun i j => .int (Builtin.bitAnd i j)) (mOp (fI (fun _ j => 0 ≤ j) fun i j => .int (i / 2 ^ j.toNat)) (mName 1) (mName 3)) (mC (.int 1)))))
  (mSeq (mFldA (fun c => c == 4) "many" (fun i j => i + j) (mName 0) (mC (.int 1)))
  (mIfS (mBl (mOp fEq (mOp (fI (fun _ j => 0 < j) fun i j => .int (i % j)) (mFld (fun c => c == 4) "many" (mName 0)) (mC (.int 8))) (mC (.int 0)))) (mSeq (mDrop (mBM fApp (mFld (fun c => c == 4) "full" (mName 0)) (vCons (mFld (fun c => c == 4) "begun" (mName 0)) vNil)))
  (mFldS (fun c => c == 4) "begun" (mName 0) (mC (.int 0)))) mNext))))))
noncomputable def m_Writer_put : Mf := mFn 3 4 b_Writer_put
theorem ok_Writer_put {P : Program} {w : World} {K : PySem.W.Frag} {mg : Str → Option Value} {base : Heap} (T : Tx K mg) : FnOk P w K mg base (L2.CX P w) 4 T.a_Writer_put T.d_Writer_put ["self", "number", "many"] (spM K (ctT T) m_Writer_put) :=
  T.F_Writer_put.okX sc_Writer_put (fun vs H Q E h => sp_len h) (fun cdv A outer s H vs Q E hr h => ⟨_, (pss_cons (ps_expr (pe_callS (ok_refuse_unless T) (hr.mono (by decide)) (by rfl) T.g_refuse_unless T.F_refuse_unless.kp T.b_refuse_unless (fun σ => passAt (takes_of rfl rfl rfl rfl) σ) (pa_cons (pe_and (pe_callZ (ok_is_whole_bits T) (hr.mono (by decide)) (by rfl) T.g_is_whole_bits T.F_is_whole_bits.kp T.b_is_whole_bits pass0 (pa_cons (pv 2) pa_nil)) (pe_one (pe_chain op_le op_le pe_int (pv 2) (pe_glob rfl T.m_MOST_BITS T.r_MOST_BITS)))) pa_nil)))
      (pss_cons (ps_expr (pe_callS (ok_refuse_unless T) (hr.mono (by decide)) (by rfl) T.g_refuse_unless T.F_refuse_unless.kp T.b_refuse_unless (fun σ => passAt (takes_of rfl rfl rfl rfl) σ) (pa_cons (pe_and (pe_callZ (ok_is_whole_bits T) (hr.mono (by decide)) (by rfl) T.g_is_whole_bits T.F_is_whole_bits.kp T.b_is_whole_bits pass0 (pa_cons (pv 1) pa_nil)) (pe_one (pe_chain op_le op_lt pe_int (pv 1) (pe_op op_shlW pe_int (pv 2))))) pa_nil)))
      (pss_one (ps_for (passes_of rfl) rfl (pi_range3 rfl T.z_range (pa_cons (pe_op op_sub (pv 2) pe_int) (pa_cons (pe_un un_neg pe_int) (pa_cons (pe_un un_neg pe_int) pa_nil)))) (pg_name (i := 3) sc_Writer_put.nd rfl (by first | exact Or.inl rfl | exact Or.inr rfl)) (pss_cons (ps_fldZ (K := K) rfl (pv 0) (pe_op (op_addZ (K := K) rfl) (pe_op op_mulZ pe_int (pe_fldZ (K := K) rfl (pv 0) rfl)) (pe_op op_and (pe_op op_shr (pv 1) (pv 3)) pe_int)) rfl)
      (pss_cons (ps_fldaugZ (K := K) rfl (pv 0) pe_int in_add)
      (pss_one (ps_if (pt_cmpR (op_eqZ (K := K) rfl hr.units) (pe_op op_mod (pe_fldZ (K := K) rfl (pv 0) rfl) pe_int) pe_int (nomark _)) (pss_cons (ps_expr (pe_bmZ (K := K) rfl PySem.F.plainAttrs_list PySem.F.slot_list_append PySem.F.type_list_append mt_append (pe_fldZ (K := K) rfl (pv 0) rfl) (pa_cons (pe_fldZ (K := K) rfl (pv 0) rfl) pa_nil)))
      (pss_one (ps_fldZ (K := K) rfl (pv 0) pe_int rfl))) pss_nil)))))))),
    fn_run (np := 3) (N := ["self", "number", "many", "k"]) (body := b_Writer_put) (by unfold b_Writer_put; exact (sv_seq (sv_drop (ei_callS (ev_cons (ei_andV (ei_callN (ev_cons ei_var ev_nil)) (ei_chain (j_I0 fun _ _ => cr_bl) (j_I0 fun _ _ => cr_bl) (ei_c cr_int) ei_var (ei_c cr_int))) ev_nil)))
      (sv_seq (sv_drop (ei_callS (ev_cons (ei_andV (ei_callN (ev_cons ei_var ev_nil)) (ei_chain (j_I0 fun _ _ => cr_bl) (j_I0 fun _ _ => cr_bl) (ei_c cr_int) ei_var (ei_op (j_I fun _ _ => cr_int) (ei_c cr_int) ei_var))) ev_nil)))
      (sv_for (jw_rng3 (ea_cons (ei_op (j_I0 fun _ _ => cr_int) ei_var (ei_c cr_int)) (ea_cons (ei_un j_neg (ei_c cr_int)) (ea_cons (ei_un j_neg (ei_c cr_int)) ea_nil)))) sg_name (sv_seq (sv_fld (ok := (fun c => c == 4)) (okc1 ⟨T.cl_Writer, T.n_Writer_begun⟩) ei_var (ei_op j_add (ei_op j_mul (ei_c cr_int) (ei_fld (ok := (fun c => c == 4)) (okc1 ⟨T.cl_Writer, T.n_Writer_begun⟩) ei_var)) (ei_op (j_I0 fun _ _ => cr_int) (ei_op (j_I fun _ _ => cr_int) ei_var ei_var) (ei_c cr_int))))
      (sv_seq (sv_fldA (ok := (fun c => c == 4)) (g := (fun i j => i + j)) (okc1 ⟨T.cl_Writer, T.n_Writer_many⟩) ei_var (ei_c cr_int))
      (sv_if (et_tst (ei_op j_eq (ei_op (j_I fun _ _ => cr_int) (ei_fld (ok := (fun c => c == 4)) (okc1 ⟨T.cl_Writer, T.n_Writer_many⟩) ei_var) (ei_c cr_int)) (ei_c cr_int))) (sv_seq (sv_drop (ei_bm jm_app (ei_fld (ok := (fun c => c == 4)) (okc1 ⟨T.cl_Writer, T.n_Writer_full⟩) ei_var) (ev_cons (ei_fld (ok := (fun c => c == 4)) (okc1 ⟨T.cl_Writer, T.n_Writer_begun⟩) ei_var) ev_nil)))
      (sv_fld (ok := (fun c => c == 4)) (okc1 ⟨T.cl_Writer, T.n_Writer_begun⟩) ei_var (ei_c cr_int))) sv_next))))))) h⟩)
@[irreducible] noncomputable def b_Writer_fill : Ms :=
  (mDrop (mMethS 4 "put" m_Writer_put (mName 0) (vCons (mC (.int 0)) (vCons (mOp (fI (fun _ j => 0 < j) fun i j => .int (i % j)) (mOp (fI0 fun i j => .int (i - j)) (mC (.int 0)) (mFld (fun c => c == 4) "many" (mName 0))) (mC (.int 8))) vNil))))
noncomputable def m_Writer_fill : Mf := mFn 1 1 b_Writer_fill
theorem ok_Writer_fill {P : Program} {w : World} {K : PySem.W.Frag} {mg : Str → Option Value} {base : Heap} (T : Tx K mg) : FnOk P w K mg base (L2.CX P w) 5 T.a_Writer_fill T.d_Writer_fill ["self"] (spM K (ctT T) m_Writer_fill) :=
  T.F_Writer_fill.okX sc_Writer_fill (fun vs H Q E h => sp_len h) (fun cdv A outer s H vs Q E hr h => ⟨_, (pss_one (ps_expr (Z.pe_methS (pv 0) T.cl_Writer T.M_Writer_put (ok_Writer_put T) (hr.mono (by decide)) T.b_Writer_put (fun σ => passAt (takes_of rfl rfl rfl rfl) σ) (pa_cons pe_int (pa_cons (pe_op op_mod (pe_op op_sub pe_int (pe_fldZ (K := K) rfl (pv 0) rfl)) pe_int) pa_nil))))),
    fn_run (np := 1) (N := ["self"]) (body := b_Writer_fill) (by unfold b_Writer_fill; exact (sv_drop (ei_methS (c := 4) ei_var (ev_cons (ei_c cr_int) (ev_cons (ei_op (j_I fun _ _ => cr_int) (ei_op (j_I0 fun _ _ => cr_int) (ei_c cr_int) (ei_fld (ok := (fun c => c == 4)) (okc1 ⟨T.cl_Writer, T.n_Writer_many⟩) ei_var)) (ei_c cr_int)) ev_nil))))) h⟩)
@[irreducible] noncomputable def b_Writer_row : Ms :=
  (mSeq (mAsg 1 (mOp (fI (fun _ j => 0 < j) fun i j => .int (i % j)) (mFld (fun c => c == 4) "many" (mName 0)) (mC (.int 8))))
  (mSeq (mIfS (mBl (mOp fEq (mName 1) (mC (.int 0)))) (mRet (mCB fList (aCons (mFld (fun c => c == 4) "full" (mName 0)) aNil))) mNext)
  (mRet (mOp fAdd (mFld (fun c => c == 4) "full" (mName 0)) (mLst (vCons (mOp (fI CShl fun i j => .int (i * 2 ^ j.toNat)) (mFld (fun c => c == 4) "begun" (mName 0)) (mOp (fI0 fun i j => .int (i - j)) (mC (.int 8)) (mName 1))) vNil))))))
noncomputable def m_Writer_row : Mf := mFn 1 2 b_Writer_row
theorem ok_Writer_row {P : Program} {w : World} {K : PySem.W.Frag} {mg : Str → Option Value} {base : Heap} (T : Tx K mg) : FnOk P w K mg base CX0 1 T.a_Writer_row T.d_Writer_row ["self"] (spM K (ctT T) m_Writer_row) :=
  T.F_Writer_row.ok sc_Writer_row (fun vs H Q E h => sp_len h) (fun cdv A outer s H vs Q E hr h => ⟨_, (pss_cons (ps_set (i := 1) sc_Writer_row.nd rfl (by first | exact Or.inl rfl | exact Or.inr rfl) (pe_op op_mod (pe_fldZ (K := K) rfl (pv 0) rfl) pe_int))
      (pss_cons (ps_if (pt_cmpR (op_eqZ (K := K) rfl hr.units) (pv 1) pe_int (nomark _)) (pss_one (ps_ret (pe_callTy (call_listZ (K := K) rfl) (by rfl) T.z_list (by decide +kernel) (pa_cons (pe_fldZ (K := K) rfl (pv 0) rfl) pa_nil)))) pss_nil)
      (pss_one (ps_ret (pe_op (op_addZ (K := K) rfl) (pe_fldZ (K := K) rfl (pv 0) rfl) (pe_lst (pa_cons (pe_op op_shlW (pe_fldZ (K := K) rfl (pv 0) rfl) (pe_op op_sub pe_int (pv 1))) pa_nil))))))),
    fn_run (np := 1) (N := ["self", "rest"]) (body := b_Writer_row) (by unfold b_Writer_row; exact (sv_seq (sv_asg (ei_op (j_I fun _ _ => cr_int) (ei_fld (ok := (fun c => c == 4)) (okc1 ⟨T.cl_Writer, T.n_Writer_many⟩) ei_var) (ei_c cr_int)))
      (sv_seq (sv_if (et_tst (ei_op j_eq ei_var (ei_c cr_int))) (sv_ret (ei_cb jb_list (ea_cons (ei_fld (ok := (fun c => c == 4)) (okc1 ⟨T.cl_Writer, T.n_Writer_full⟩) ei_var) ea_nil))) sv_next)
      (sv_ret (ei_op j_add (ei_fld (ok := (fun c => c == 4)) (okc1 ⟨T.cl_Writer, T.n_Writer_full⟩) ei_var) (ei_lst (ev_cons (ei_op (j_I fun _ _ => cr_int) (ei_fld (ok := (fun c => c == 4)) (okc1 ⟨T.cl_Writer, T.n_Writer_begun⟩) ei_var) (ei_op (j_I0 fun _ _ => cr_int) (ei_c cr_int) ei_var)) ev_nil))))))) h⟩)
@[irreducible] noncomputable def b_symbol_of : Ms :=
  (mSeq (mIfS (mBl (mOp fEq (mOp fIxY (mName 0) (mC (.int 0))) (mC (.str (Str.ofString "back"))))) (mRet (mC (.int 32))) mNext)
  (mRet (mOp (fI CDiv fun i j => .int (i / j)) (mOp fIxY (mName 0) (mC (.int 1))) (mC (.int 8)))))
noncomputable def m_symbol_of : Mf := mFn 1 1 b_symbol_of
theorem ok_symbol_of {P : Program} {w : World} {K : PySem.W.Frag} {mg : Str → Option Value} {base : Heap} (T : Tx K mg) : FnOk P w K mg base CX0 1 T.a_symbol_of T.d_symbol_of ["token"] (spM K (ctT T) m_symbol_of) :=
  T.F_symbol_of.ok sc_symbol_of (fun vs H Q E h => sp_len h) (fun cdv A outer s H vs Q E hr h => ⟨_, (pss_cons (ps_if (pt_cmpR (op_eqZ (K := K) rfl hr.units) (pe_ix (ix_Y (K := K) rfl (hu_of hr)) (pv 0) pe_int (fun _ _ => rfl)) pe_str (nomark _)) (pss_one (ps_ret (pe_glob rfl T.m_BACK T.r_BACK))) pss_nil)
      (pss_one (ps_ret (pe_op op_fdiv (pe_ix (ix_Y (K := K) rfl (hu_of hr)) (pv 0) pe_int (fun _ _ => rfl)) pe_int)))),
    fn_run (np := 1) (N := ["token"]) (body := b_symbol_of) (by unfold b_symbol_of; exact (sv_seq (sv_if (et_tst (ei_op j_eq (ei_op j_ixY ei_var (ei_c cr_int)) (ei_c cr_str))) (sv_ret (ei_c cr_int)) sv_next)
      (sv_ret (ei_op (j_I fun _ _ => cr_int) (ei_op j_ixY ei_var (ei_c cr_int)) (ei_c cr_int))))) h⟩)
@[irreducible] noncomputable def b_counts_of : Ms :=
  (mSeq (mAsg 1 (mLc [3] (mRng1 (aCons (mC (.int 33)) aNil)) (tgN 3) mYes (mC (.int 0))))
  (mSeq (mFor (mWL (mName 0)) (tgN 2) (mAugS (fun i j => i + j) (mName 1) (mCallN m_symbol_of (vCons (mName 2) vNil)) (mC (.int 1))))
  (mRet (mName 1))))
noncomputable def m_counts_of : Mf := mFn 1 4 b_counts_of
theorem ok_counts_of {P : Program} {w : World} {K : PySem.W.Frag} {mg : Str → Option Value} {base : Heap} (T : Tx K mg) : FnOk P w K mg base CX0 2 T.a_counts_of T.d_counts_of ["tokens"] (spM K (ctT T) m_counts_of) :=
  T.F_counts_of.ok sc_counts_of (fun vs H Q E h => sp_len h) (fun cdv A outer s H vs Q E hr h => ⟨_, (pss_cons (ps_setLc (i := 1) (own := [("symbol", 3)]) rfl sc_counts_of.nd rfl rfl (sw_true rfl rfl rfl (by decide +kernel)) (pi_range1 rfl T.z_range (pa_cons (pe_glob rfl T.m_SYMBOLS T.r_SYMBOLS) pa_nil)) (blkOk_by (N := ["tokens", "counts", "token", "symbol"]) (sc := defScope s_counts_of) (by decide +kernel)) (fun _ _ _ _ _ => (pg_name (i := 3) sc_counts_of.nd rfl (by first | exact Or.inl rfl | exact Or.inr rfl))) (fun _ _ _ _ _ => pts_nil) (fun _ _ _ _ _ => pe_int))
      (pss_cons (ps_for PassesOwn.never rfl (pi_listZ (K := K) rfl (pv 0)) (pg_name (i := 2) sc_counts_of.nd rfl (by first | exact Or.inl rfl | exact Or.inr rfl)) (pss_one (ps_augS (pv 1) (pe_callZ (ok_symbol_of T) (hr.mono (by decide)) (by rfl) T.g_symbol_of T.F_symbol_of.kp T.b_symbol_of pass0 (pa_cons (pv 2) pa_nil)) (get_list (K := K) rfl) pe_int ip_add (set_Y (hu_of hr)))))
      (pss_one (ps_ret (pv 1))))),
    fn_run (np := 1) (N := ["tokens", "counts", "token", "symbol"]) (body := b_counts_of) (by unfold b_counts_of; exact (sv_seq (sv_asg (ei_lc (ws := [3]) (jw_rng1 (ea_cons (ei_c cr_int) ea_nil)) sg_name (by decide) et_yes (ei_c cr_int)))
      (sv_seq (sv_for (jw_list ei_var) sg_name (sv_augS ei_var (ei_callN (ev_cons ei_var ev_nil)) (ei_c cr_int)))
      (sv_ret ei_var)))) h⟩)
@[irreducible] noncomputable def b_put_token : Ms :=
  (mSeq (mAsgT (tgT 2 (tgCons (tgN 3) (tgCons (tgN 4) tgNil))) (mOp fIxY (mName 1) (mCallN m_symbol_of (vCons (mName 2) vNil))))
  (mSeq (mDrop (mMethS 4 "put" m_Writer_put (mName 0) (vCons (mName 4) (vCons (mName 3) vNil))))
  (mIfS (mBl (mOp fEq (mOp fIxY (mName 2) (mC (.int 0))) (mC (.str (Str.ofString "back"))))) (mSeq (mDrop (mMethS 4 "put" m_Writer_put (mName 0) (vCons (mOp (fI0 fun i j => .int (i - j)) (mOp fIxY (mName 2) (mC (.int 1))) (mC (.int 1))) (vCons (mC (.int 8)) vNil))))
  (mDrop (mMethS 4 "put" m_Writer_put (mName 0) (vCons (mOp (fI0 fun i j => .int (i - j)) (mOp fIxY (mName 2) (mC (.int 2))) (mC (.int 1))) (vCons (mC (.int 4)) vNil))))) (mDrop (mMethS 4 "put" m_Writer_put (mName 0) (vCons (mOp (fI (fun _ j => 0 < j) fun i j => .int (i % j)) (mOp fIxY (mName 2) (mC (.int 1))) (mC (.int 8))) (vCons (mC (.int 3)) vNil)))))))
noncomputable def m_put_token : Mf := mFn 3 5 b_put_token
theorem ok_put_token {P : Program} {w : World} {K : PySem.W.Frag} {mg : Str → Option Value} {base : Heap} (T : Tx K mg) : FnOk P w K mg base (L2.CX P w) 5 T.a_put_token T.d_put_token ["writer", "words", "token"] (spM K (ctT T) m_put_token) :=
  T.F_put_token.okX sc_put_token (fun vs H Q E h => sp_len h) (fun cdv A outer s H vs Q E hr h => ⟨_, (pss_cons (ps_asg (pe_ix (ix_Y (K := K) rfl (hu_of hr)) (pv 1) (pe_callZ (ok_symbol_of T) (hr.mono (by decide)) (by rfl) T.g_symbol_of T.F_symbol_of.kp T.b_symbol_of pass0 (pa_cons (pv 2) pa_nil)) (fun _ _ => rfl)) (pg_tupZ (K := K) (n := 2) rfl rfl (pgs_cons (pg_name (i := 3) sc_put_token.nd rfl (by first | exact Or.inl rfl | exact Or.inr rfl)) (pgs_cons (pg_name (i := 4) sc_put_token.nd rfl (by first | exact Or.inl rfl | exact Or.inr rfl)) pgs_nil))))
      (pss_cons (ps_expr (Z.pe_methS (pv 0) T.cl_Writer T.M_Writer_put (ok_Writer_put T) (hr.mono (by decide)) T.b_Writer_put (fun σ => passAt (takes_of rfl rfl rfl rfl) σ) (pa_cons (pv 4) (pa_cons (pv 3) pa_nil))))
      (pss_one (ps_if (pt_cmpR (op_eqZ (K := K) rfl hr.units) (pe_ix (ix_Y (K := K) rfl (hu_of hr)) (pv 2) pe_int (fun _ _ => rfl)) pe_str (nomark _)) (pss_cons (ps_expr (Z.pe_methS (pv 0) T.cl_Writer T.M_Writer_put (ok_Writer_put T) (hr.mono (by decide)) T.b_Writer_put (fun σ => passAt (takes_of rfl rfl rfl rfl) σ) (pa_cons (pe_op op_sub (pe_ix (ix_Y (K := K) rfl (hu_of hr)) (pv 2) pe_int (fun _ _ => rfl)) pe_int) (pa_cons pe_int pa_nil))))
      (pss_one (ps_expr (Z.pe_methS (pv 0) T.cl_Writer T.M_Writer_put (ok_Writer_put T) (hr.mono (by decide)) T.b_Writer_put (fun σ => passAt (takes_of rfl rfl rfl rfl) σ) (pa_cons (pe_op op_sub (pe_ix (ix_Y (K := K) rfl (hu_of hr)) (pv 2) pe_int (fun _ _ => rfl)) pe_int) (pa_cons pe_int pa_nil)))))) (pss_one (ps_expr (Z.pe_methS (pv 0) T.cl_Writer T.M_Writer_put (ok_Writer_put T) (hr.mono (by decide)) T.b_Writer_put (fun σ => passAt (takes_of rfl rfl rfl rfl) σ) (pa_cons (pe_op op_mod (pe_ix (ix_Y (K := K) rfl (hu_of hr)) (pv 2) pe_int (fun _ _ => rfl)) pe_int) (pa_cons pe_int pa_nil))))))))),
    fn_run (np := 3) (N := ["writer", "words", "token", "size", "number"]) (body := b_put_token) (by unfold b_put_token; exact (sv_seq (sv_asgT (sg_tup (sgs_cons sg_name (sgs_cons sg_name sgs_nil))) (ei_op j_ixY ei_var (ei_callN (ev_cons ei_var ev_nil))))
      (sv_seq (sv_drop (ei_methS (c := 4) ei_var (ev_cons ei_var (ev_cons ei_var ev_nil))))
      (sv_if (et_tst (ei_op j_eq (ei_op j_ixY ei_var (ei_c cr_int)) (ei_c cr_str))) (sv_seq (sv_drop (ei_methS (c := 4) ei_var (ev_cons (ei_op (j_I0 fun _ _ => cr_int) (ei_op j_ixY ei_var (ei_c cr_int)) (ei_c cr_int)) (ev_cons (ei_c cr_int) ev_nil))))
      (sv_drop (ei_methS (c := 4) ei_var (ev_cons (ei_op (j_I0 fun _ _ => cr_int) (ei_op j_ixY ei_var (ei_c cr_int)) (ei_c cr_int)) (ev_cons (ei_c cr_int) ev_nil))))) (sv_drop (ei_methS (c := 4) ei_var (ev_cons (ei_op (j_I fun _ _ => cr_int) (ei_op j_ixY ei_var (ei_c cr_int)) (ei_c cr_int)) (ev_cons (ei_c cr_int) ev_nil)))))))) h⟩)
@[irreducible] noncomputable def b_packed_body : Ms :=
  (mSeq (mAsg 2 (mCallN m_found_in (vCons (mName 0) (vCons (mName 1) vNil))))
  (mSeq (mAsg 3 (mCall m_least_lengths (vCons (mCallN m_counts_of (vCons (mName 2) vNil)) vNil)))
  (mSeq (mAsg 4 (mMakeN 4 m_Writer_init [] vNil))
  (mSeq (mFor (mWL (mName 3)) (tgN 5) (mDrop (mMethS 4 "put" m_Writer_put (mName 4) (vCons (mName 5) (vCons (mC (.int 4)) vNil)))))
  (mSeq (mDrop (mMethS 4 "fill" m_Writer_fill (mName 4) vNil))
  (mSeq (mAsg 6 (mCall m_words_of (vCons (mName 3) vNil)))
  (mSeq (mFor (mWL (mName 2)) (tgN 7) (mDrop (mCall m_put_token (vCons (mName 4) (vCons (mName 6) (vCons (mName 7) vNil))))))
  (mRet (mMethN 4 "row" m_Writer_row (mName 4) vNil)))))))))
noncomputable def m_packed_body : Mf := mFn 2 8 b_packed_body
theorem ok_packed_body {P : Program} {w : World} {K : PySem.W.Frag} {mg : Str → Option Value} {base : Heap} (T : Tx K mg) : FnOk P w K mg base (L2.CX P w) 7 T.a_packed_body T.d_packed_body ["row", "window"] (spM K (ctT T) m_packed_body) :=
  T.F_packed_body.okX sc_packed_body (fun vs H Q E h => sp_len h) (fun cdv A outer s H vs Q E hr h => ⟨_, (pss_cons (ps_set (i := 2) sc_packed_body.nd rfl (by first | exact Or.inl rfl | exact Or.inr rfl) (pe_callZ (ok_found_in T) (hr.mono (by decide)) (by rfl) T.g_found_in T.F_found_in.kp T.b_found_in pass0 (pa_cons (pv 0) (pa_cons (pv 1) pa_nil))))
      (pss_cons (ps_set (i := 3) sc_packed_body.nd rfl (by first | exact Or.inl rfl | exact Or.inr rfl) (pe_callS (ok_least_lengths T) (hr.mono (by decide)) (by rfl) T.g_least_lengths T.F_least_lengths.kp T.b_least_lengths (fun σ => passAt (takes_of rfl rfl rfl rfl) σ) (pa_cons (pe_callZ (ok_counts_of T) (hr.mono (by decide)) (by rfl) T.g_counts_of T.F_counts_of.kp T.b_counts_of pass0 (pa_cons (pv 2) pa_nil)) pa_nil)))
      (pss_cons (ps_set (i := 4) sc_packed_body.nd rfl (by first | exact Or.inl rfl | exact Or.inr rfl) (pe_make0 T.K_Writer (ok_Writer_init T) (hr.mono (by decide)) (by rfl) T.g_Writer T.b_Writer_init .nil pass0))
      (pss_cons (ps_for (passes_of rfl) rfl (pi_listZ (K := K) rfl (pv 3)) (pg_name (i := 5) sc_packed_body.nd rfl (by first | exact Or.inl rfl | exact Or.inr rfl)) (pss_one (ps_expr (Z.pe_methS (pv 4) T.cl_Writer T.M_Writer_put (ok_Writer_put T) (hr.mono (by decide)) T.b_Writer_put (fun σ => passAt (takes_of rfl rfl rfl rfl) σ) (pa_cons (pv 5) (pa_cons pe_int pa_nil))))))
      (pss_cons (ps_expr (Z.pe_meth0S (pv 4) T.cl_Writer T.M_Writer_fill (ok_Writer_fill T) (hr.mono (by decide)) T.b_Writer_fill (fun σ => passAt (takes_of rfl rfl rfl rfl) σ)))
      (pss_cons (ps_set (i := 6) sc_packed_body.nd rfl (by first | exact Or.inl rfl | exact Or.inr rfl) (pe_callS (ok_words_of T) (hr.mono (by decide)) (by rfl) T.g_words_of T.F_words_of.kp T.b_words_of (fun σ => passAt (takes_of rfl rfl rfl rfl) σ) (pa_cons (pv 3) pa_nil)))
      (pss_cons (ps_for (passes_of rfl) rfl (pi_listZ (K := K) rfl (pv 2)) (pg_name (i := 7) sc_packed_body.nd rfl (by first | exact Or.inl rfl | exact Or.inr rfl)) (pss_one (ps_expr (pe_callS (ok_put_token T) (hr.mono (by decide)) (by rfl) T.g_put_token T.F_put_token.kp T.b_put_token (fun σ => passAt (takes_of rfl rfl rfl rfl) σ) (pa_cons (pv 4) (pa_cons (pv 6) (pa_cons (pv 7) pa_nil)))))))
      (pss_one (ps_ret (pe_meth0Z (pv 4) T.cl_Writer T.M_Writer_row (ok_Writer_row T) (hr.mono (by decide)) T.b_Writer_row pass0)))))))))),
    fn_run (np := 2) (N := ["row", "window", "tokens", "lengths", "writer", "length", "words", "token"]) (body := b_packed_body) (by unfold b_packed_body; exact (sv_seq (sv_asg (ei_callN (ev_cons ei_var (ev_cons ei_var ev_nil))))
      (sv_seq (sv_asg (ei_callS (ev_cons (ei_callN (ev_cons ei_var ev_nil)) ev_nil)))
      (sv_seq (sv_asg (ei_makeN (c := 4) (dds := []) crl_nil ev_nil))
      (sv_seq (sv_for (jw_list ei_var) sg_name (sv_drop (ei_methS (c := 4) ei_var (ev_cons ei_var (ev_cons (ei_c cr_int) ev_nil)))))
      (sv_seq (sv_drop (ei_methS (c := 4) ei_var ev_nil))
      (sv_seq (sv_asg (ei_callS (ev_cons ei_var ev_nil)))
      (sv_seq (sv_for (jw_list ei_var) sg_name (sv_drop (ei_callS (ev_cons ei_var (ev_cons ei_var (ev_cons ei_var ev_nil))))))
      (sv_ret (ei_methN (c := 4) ei_var ev_nil)))))))))) h⟩)
@[irreducible] noncomputable def b_body_of : Ms :=
  (mSeq (mIfS (mBl (mOp (fI0 fun i j => .bl (decide (j < i))) (mCB fLen (aCons (mName 0) aNil)) (mC (.int 17)))) (mSeq (mAsg 2 (mCall m_packed_body (vCons (mName 0) (vCons (mName 1) vNil))))
  (mIfS (mBl (mOp (fI0 fun i j => .bl (decide (i < j))) (mCB fLen (aCons (mName 2) aNil)) (mCB fLen (aCons (mName 0) aNil)))) (mRet (mTup (vCons (mC (.int 1)) (vCons (mName 2) vNil)))) mNext)) mNext)
  (mRet (mTup (vCons (mC (.int 0)) (vCons (mCB fList (aCons (mName 0) aNil)) vNil)))))
noncomputable def m_body_of : Mf := mFn 2 3 b_body_of
theorem ok_body_of {P : Program} {w : World} {K : PySem.W.Frag} {mg : Str → Option Value} {base : Heap} (T : Tx K mg) : FnOk P w K mg base (L2.CX P w) 8 T.a_body_of T.d_body_of ["row", "window"] (spM K (ctT T) m_body_of) :=
  T.F_body_of.okX sc_body_of (fun vs H Q E h => sp_len h) (fun cdv A outer s H vs Q E hr h => ⟨_, (pss_cons (ps_if (pt_cmpR op_gt (pe_callB (call_lenY (K := K) rfl) (by rfl) T.z_len PySem.boot_len (pa_cons (pv 0) pa_nil)) (pe_glob rfl T.m_TABLE_BYTES T.r_TABLE_BYTES) (nomark _)) (pss_cons (ps_set (i := 2) sc_body_of.nd rfl (by first | exact Or.inl rfl | exact Or.inr rfl) (pe_callS (ok_packed_body T) (hr.mono (by decide)) (by rfl) T.g_packed_body T.F_packed_body.kp T.b_packed_body (fun σ => passAt (takes_of rfl rfl rfl rfl) σ) (pa_cons (pv 0) (pa_cons (pv 1) pa_nil))))
      (pss_one (ps_if (pt_cmpR op_lt (pe_callB (call_lenY (K := K) rfl) (by rfl) T.z_len PySem.boot_len (pa_cons (pv 2) pa_nil)) (pe_callB (call_lenY (K := K) rfl) (by rfl) T.z_len PySem.boot_len (pa_cons (pv 0) pa_nil)) (nomark _)) (pss_one (ps_ret (pe_tup (pa_cons (pe_glob rfl T.m_PACKED T.r_PACKED) (pa_cons (pv 2) pa_nil))))) pss_nil))) pss_nil)
      (pss_one (ps_ret (pe_tup (pa_cons (pe_glob rfl T.m_PLAIN T.r_PLAIN) (pa_cons (pe_callTy (call_listZ (K := K) rfl) (by rfl) T.z_list (by decide +kernel) (pa_cons (pv 0) pa_nil)) pa_nil)))))),
    fn_run (np := 2) (N := ["row", "window", "packed"]) (body := b_body_of) (by unfold b_body_of; exact (sv_seq (sv_if (et_tst (ei_op (j_I0 fun _ _ => cr_bl) (ei_cb jb_len (ea_cons ei_var ea_nil)) (ei_c cr_int))) (sv_seq (sv_asg (ei_callS (ev_cons ei_var (ev_cons ei_var ev_nil))))
      (sv_if (et_tst (ei_op (j_I0 fun _ _ => cr_bl) (ei_cb jb_len (ea_cons ei_var ea_nil)) (ei_cb jb_len (ea_cons ei_var ea_nil)))) (sv_ret (ei_tup (ev_cons (ei_c cr_int) (ev_cons ei_var ev_nil)))) sv_next)) sv_next)
      (sv_ret (ei_tup (ev_cons (ei_c cr_int) (ev_cons (ei_cb jb_list (ea_cons ei_var ea_nil)) ev_nil)))))) h⟩)
@[irreducible] noncomputable def b_crc_on : Ms :=
  (mSeq (mAsg 2 (mName 0))
  (mSeq (mFor (mWL (mName 1)) (tgN 3) (mSeq (mAsg 2 (mOp (fI0 fun i j => .int (Builtin.bitXor i j)) (mName 2) (mOp (fI CShl fun i j => .int (i * 2 ^ j.toNat)) (mName 3) (mC (.int 8)))))
  (mFor (mRng1 (aCons (mC (.int 8)) aNil)) (tgN 4) (mIfS (mTru (mOp (fI0 fun i j => .int (Builtin.bitAnd i j)) (mName 2) (mC (.int 32768)))) (mAsg 2 (mOp (fI0 fun i j => .int (Builtin.bitXor i j)) (mOp (fI CShl fun i j => .int (i * 2 ^ j.toNat)) (mOp (fI0 fun i j => .int (Builtin.bitXor i j)) (mName 2) (mC (.int 32768))) (mC (.int 1))) (mC (.int 4129)))) (mAsg 2 (mOp (fI CShl fun i j => .int (i * 2 ^ j.toNat)) (mName 2) (mC (.int 1))))))))
  (mRet (mName 2))))
noncomputable def m_crc_on : Mf := mFn 2 5 b_crc_on
theorem ok_crc_on {P : Program} {w : World} {K : PySem.W.Frag} {mg : Str → Option Value} {base : Heap} (T : Tx K mg) : FnOk P w K mg base CX0 1 T.a_crc_on T.d_crc_on ["begun", "row"] (spM K (ctT T) m_crc_on) :=
  T.F_crc_on.ok sc_crc_on (fun vs H Q E h => sp_len h) (fun cdv A outer s H vs Q E hr h => ⟨_, (pss_cons (ps_set (i := 2) sc_crc_on.nd rfl (by first | exact Or.inl rfl | exact Or.inr rfl) (pv 0))
      (pss_cons (ps_for PassesOwn.never rfl (pi_listZ (K := K) rfl (pv 1)) (pg_name (i := 3) sc_crc_on.nd rfl (by first | exact Or.inl rfl | exact Or.inr rfl)) (pss_cons (ps_set (i := 2) sc_crc_on.nd rfl (by first | exact Or.inl rfl | exact Or.inr rfl) (pe_op op_xor (pv 2) (pe_op op_shlW (pv 3) pe_int)))
      (pss_one (ps_for PassesOwn.never rfl (pi_range1 rfl T.z_range (pa_cons pe_int pa_nil)) (pg_name (i := 4) sc_crc_on.nd rfl (by first | exact Or.inl rfl | exact Or.inr rfl)) (pss_one (ps_if (pt_truthZ (K := K) rfl (pe_op op_and (pv 2) (pe_glob rfl T.m_TOP T.r_TOP)) (by intro _; rfl)) (pss_one (ps_set (i := 2) sc_crc_on.nd rfl (by first | exact Or.inl rfl | exact Or.inr rfl) (pe_op op_xor (pe_op op_shlW (pe_op op_xor (pv 2) (pe_glob rfl T.m_TOP T.r_TOP)) pe_int) (pe_glob rfl T.m_FEED T.r_FEED)))) (pss_one (ps_set (i := 2) sc_crc_on.nd rfl (by first | exact Or.inl rfl | exact Or.inr rfl) (pe_op op_shlW (pv 2) pe_int)))))))))
      (pss_one (ps_ret (pv 2))))),
    fn_run (np := 2) (N := ["begun", "row", "found", "byte", "k"]) (body := b_crc_on) (by unfold b_crc_on; exact (sv_seq (sv_asg ei_var)
      (sv_seq (sv_for (jw_list ei_var) sg_name (sv_seq (sv_asg (ei_op (j_I0 fun _ _ => cr_int) ei_var (ei_op (j_I fun _ _ => cr_int) ei_var (ei_c cr_int))))
      (sv_for (jw_rng1 (ea_cons (ei_c cr_int) ea_nil)) sg_name (sv_if (et_tru (ei_op (j_I0 fun _ _ => cr_int) ei_var (ei_c cr_int))) (sv_asg (ei_op (j_I0 fun _ _ => cr_int) (ei_op (j_I fun _ _ => cr_int) (ei_op (j_I0 fun _ _ => cr_int) ei_var (ei_c cr_int)) (ei_c cr_int)) (ei_c cr_int))) (sv_asg (ei_op (j_I fun _ _ => cr_int) ei_var (ei_c cr_int)))))))
      (sv_ret ei_var)))) h⟩)
@[irreducible] noncomputable def b_crc : Ms :=
  (mRet (mCallN m_crc_on (vCons (mC (.int 65535)) (vCons (mName 0) vNil))))
noncomputable def m_crc : Mf := mFn 1 1 b_crc
theorem ok_crc {P : Program} {w : World} {K : PySem.W.Frag} {mg : Str → Option Value} {base : Heap} (T : Tx K mg) : FnOk P w K mg base CX0 2 T.a_crc T.d_crc ["row"] (spM K (ctT T) m_crc) :=
  T.F_crc.ok sc_crc (fun vs H Q E h => sp_len h) (fun cdv A outer s H vs Q E hr h => ⟨_, (pss_one (ps_ret (pe_callZ (ok_crc_on T) (hr.mono (by decide)) (by rfl) T.g_crc_on T.F_crc_on.kp T.b_crc_on pass0 (pa_cons (pe_glob rfl T.m_BEGIN T.r_BEGIN) (pa_cons (pv 0) pa_nil))))),
    fn_run (np := 1) (N := ["row"]) (body := b_crc) (by unfold b_crc; exact (sv_ret (ei_callN (ev_cons (ei_c cr_int) (ev_cons ei_var ev_nil))))) h⟩)
@[irreducible] noncomputable def b_crc_row : Ms :=
  (mSeq (mAsg 1 (mCallN m_crc (vCons (mName 0) vNil)))
  (mRet (mLst (vCons (mOp (fI (fun _ j => 0 ≤ j) fun i j => .int (i / 2 ^ j.toNat)) (mName 1) (mC (.int 8))) (vCons (mOp (fI0 fun i j => .int (Builtin.bitAnd i j)) (mName 1) (mC (.int 255))) vNil)))))
noncomputable def m_crc_row : Mf := mFn 1 2 b_crc_row
theorem ok_crc_row {P : Program} {w : World} {K : PySem.W.Frag} {mg : Str → Option Value} {base : Heap} (T : Tx K mg) : FnOk P w K mg base CX0 3 T.a_crc_row T.d_crc_row ["row"] (spM K (ctT T) m_crc_row) :=
  T.F_crc_row.ok sc_crc_row (fun vs H Q E h => sp_len h) (fun cdv A outer s H vs Q E hr h => ⟨_, (pss_cons (ps_set (i := 1) sc_crc_row.nd rfl (by first | exact Or.inl rfl | exact Or.inr rfl) (pe_callZ (ok_crc T) (hr.mono (by decide)) (by rfl) T.g_crc T.F_crc.kp T.b_crc pass0 (pa_cons (pv 0) pa_nil)))
      (pss_one (ps_ret (pe_lst (pa_cons (pe_op op_shr (pv 1) pe_int) (pa_cons (pe_op op_and (pv 1) pe_int) pa_nil)))))),
    fn_run (np := 1) (N := ["row", "found"]) (body := b_crc_row) (by unfold b_crc_row; exact (sv_seq (sv_asg (ei_callN (ev_cons ei_var ev_nil)))
      (sv_ret (ei_lst (ev_cons (ei_op (j_I fun _ _ => cr_int) ei_var (ei_c cr_int)) (ev_cons (ei_op (j_I0 fun _ _ => cr_int) ei_var (ei_c cr_int)) ev_nil)))))) h⟩)
@[irreducible] noncomputable def b_piece_row : Ms :=
  (mSeq (mAsgT (tgT 2 (tgCons (tgN 4) (tgCons (tgN 5) tgNil))) (mCall m_body_of (vCons (mName 2) (vCons (mName 3) vNil))))
  (mSeq (mAsg 6 (mOp fAdd (mLst (vCons (mName 4) (vCons (mName 0) (vCons (mName 1) (vCons (mCB fLen (aCons (mName 2) aNil)) vNil))))) (mName 5)))
  (mRet (mOp fAdd (mOp fAdd (mC (.clst (List.map D.int [165, 90]))) (mName 6)) (mCallN m_crc_row (vCons (mName 6) vNil))))))
noncomputable def m_piece_row : Mf := mFn 4 7 b_piece_row
theorem ok_piece_row {P : Program} {w : World} {K : PySem.W.Frag} {mg : Str → Option Value} {base : Heap} (T : Tx K mg) : FnOk P w K mg base (L2.CX P w) 9 T.a_piece_row T.d_piece_row ["text", "number", "row", "window"] (spM K (ctT T) m_piece_row) :=
  T.F_piece_row.okX sc_piece_row (fun vs H Q E h => sp_len h) (fun cdv A outer s H vs Q E hr h => ⟨_, (pss_cons (ps_asg (pe_callS (ok_body_of T) (hr.mono (by decide)) (by rfl) T.g_body_of T.F_body_of.kp T.b_body_of (fun σ => passAt (takes_of rfl rfl rfl rfl) σ) (pa_cons (pv 2) (pa_cons (pv 3) pa_nil))) (pg_tupZ (K := K) (n := 2) rfl rfl (pgs_cons (pg_name (i := 4) sc_piece_row.nd rfl (by first | exact Or.inl rfl | exact Or.inr rfl)) (pgs_cons (pg_name (i := 5) sc_piece_row.nd rfl (by first | exact Or.inl rfl | exact Or.inr rfl)) pgs_nil))))
      (pss_cons (ps_set (i := 6) sc_piece_row.nd rfl (by first | exact Or.inl rfl | exact Or.inr rfl) (pe_op (op_addZ (K := K) rfl) (pe_lst (pa_cons (pv 4) (pa_cons (pv 0) (pa_cons (pv 1) (pa_cons (pe_callB (call_lenY (K := K) rfl) (by rfl) T.z_len PySem.boot_len (pa_cons (pv 2) pa_nil)) pa_nil))))) (pv 5)))
      (pss_one (ps_ret (pe_op (op_addZ (K := K) rfl) (pe_op (op_addZ (K := K) rfl) (pe_glob (v := .ref T.u_MARK) rfl T.m_MARK rfl) (pv 6)) (pe_callZ (ok_crc_row T) (hr.mono (by decide)) (by rfl) T.g_crc_row T.F_crc_row.kp T.b_crc_row pass0 (pa_cons (pv 6) pa_nil))))))),
    fn_run (np := 4) (N := ["text", "number", "row", "window", "kind", "body", "told"]) (body := b_piece_row) (by unfold b_piece_row; exact (sv_seq (sv_asgT (sg_tup (sgs_cons sg_name (sgs_cons sg_name sgs_nil))) (ei_callS (ev_cons ei_var (ev_cons ei_var ev_nil))))
      (sv_seq (sv_asg (ei_op j_add (ei_lst (ev_cons ei_var (ev_cons ei_var (ev_cons ei_var (ev_cons (ei_cb jb_len (ea_cons ei_var ea_nil)) ev_nil))))) ei_var))
      (sv_ret (ei_op j_add (ei_op j_add (ei_c (cr_kl T.r_MARK)) ei_var) (ei_callN (ev_cons ei_var ev_nil))))))) h⟩)
@[irreducible] noncomputable def b_law : Ms :=
  (mSeq (mFor (mRng1 (aCons (mCB (fI2 min) (aCons (mC (.int 4)) (aCons (mCB fLen (aCons (mName 0) aNil)) aNil))) aNil)) (tgN 1) (mSeq (mAsgK 2 (mCallN m_l_draw (vCons (mOp fIxY (mName 0) (mName 1)) vNil)))
  (mSeq (mAsg 3 (mOp fIxY (mLst (vCons (mC (.int 1)) (vCons (mC (.int 2)) (vCons (mC (.int 16)) (vCons (mC (.int 255)) (vCons (mC (.int 256)) (vCons (mOp fAdd (mC (.int 1)) (mCallN m_l_next (vCons (mName 2) (vCons (mC (.int 256)) vNil)))) vNil))))))) (mCallN m_l_next (vCons (mName 2) (vCons (mC (.int 6)) vNil)))))
  (mSeq (mAsg 4 (mOp fIxY (mLst (vCons (mC (.int 0)) (vCons (mC (.int 254)) (vCons (mCallN m_l_next (vCons (mName 2) (vCons (mC (.int 255)) vNil))) vNil)))) (mCallN m_l_next (vCons (mName 2) (vCons (mC (.int 3)) vNil)))))
  (mSeq (mAsg 5 (mOp fIxY (mLst (vCons (mC (.int 0)) (vCons (mC (.int 254)) (vCons (mCallN m_l_next (vCons (mName 2) (vCons (mC (.int 255)) vNil))) vNil)))) (mCallN m_l_next (vCons (mName 2) (vCons (mC (.int 3)) vNil)))))
  (mSeq (mAsg 6 (mCallN m_l_row (vCons (mName 2) vNil)))
  (mSeq (mIfS (mAnd (mBl (mOp (fI0 fun i j => .bl (decide (j < i))) (mName 1) (mC (.int 0)))) (mBl (mOp (fI0 fun i j => .bl (decide (j < i))) (mCB fLen (aCons (mName 6) aNil)) (mC (.int 60))))) (mAsg 3 (mCB (fI2 min) (aCons (mName 3) (aCons (mC (.int 16)) aNil)))) mNext)
  (mSeq (mAsg 7 (mCB fList (aCons (mName 6) aNil)))
  (mSeq (mAsg 8 (mCallN m_l_due (vCons (mName 4) (vCons (mName 5) (vCons (mName 6) (vCons (mName 3) vNil))))))
  (mSeq (mAsg 9 (mCallN m_piece_row (vCons (mName 4) (vCons (mName 5) (vCons (mName 7) (vCons (mName 3) vNil))))))
  (mSeq (mIfS (mOr (mNot (mTru (mCB fIsi (aCons (mName 9) (aCons (mC (.ty "list")) aNil))))) (mOr (mBl (mOp fNe (mName 9) (mName 8))) (mBl (mOp fNe (mName 7) (mName 6))))) (mRet (mC (.bl false))) mNext)
  (mSeq (mDrop (mBM fApp (mName 9) (vCons (mC (.int 7)) vNil)))
  (mIfS (mAnd (mOr (mBl (mOp (fI0 fun i j => .bl (decide (j < i))) (mName 1) (mC (.int 0)))) (mBl (mOp (fI0 fun i j => .bl (decide (i < j))) (mCB fLen (aCons (mName 6) aNil)) (mC (.int 61))))) (mBl (mOp fNe (mCallN m_piece_row (vCons (mName 4) (vCons (mName 5) (vCons (mName 7) (vCons (mName 3) vNil))))) (mName 8)))) (mRet (mC (.bl false))) mNext)))))))))))))
  (mRet (mOp fEq (mCallN m_piece_row (vCons (mC (.int 0)) (vCons (mC (.int 0)) (vCons (mLst vNil) (vCons (mC (.int 1)) vNil))))) (mOp fAdd (mLst (vCons (mC (.int 165)) (vCons (mC (.int 90)) (vCons (mC (.int 0)) (vCons (mC (.int 0)) (vCons (mC (.int 0)) (vCons (mC (.int 0)) vNil))))))) (mCallN m_l_sum (vCons (mLst (vCons (mC (.int 0)) (vCons (mC (.int 0)) (vCons (mC (.int 0)) (vCons (mC (.int 0)) vNil))))) vNil))))))
noncomputable def m_law : Mf := mFn 1 10 b_law
theorem ok_law {P : Program} {w : World} {K : PySem.W.Frag} {mg : Str → Option Value} {base : Heap} (T : Tx K mg) : FnOk P w K mg base CX0 10 T.a_law T.d_law ["_law_script"] (spM K (ctT T) m_law) :=
  T.F_law.ok sc_law (fun vs H Q E h => sp_len h) (fun cdv A outer s H vs Q E hr h => ⟨_, (pss_cons (ps_for PassesOwn.never rfl (pi_range1 rfl T.z_range (pa_cons (pe_callB (call_min2Z rfl) (by rfl) T.z_min (by decide +kernel) (pa_cons pe_int (pa_cons (pe_callB (call_lenY (K := K) rfl) (by rfl) T.z_len PySem.boot_len (pa_cons (pv 0) pa_nil)) pa_nil))) pa_nil)) (pg_name (i := 1) sc_law.nd rfl (by first | exact Or.inl rfl | exact Or.inr rfl)) (pss_cons (ps_set (i := 2) sc_law.nd rfl (by first | exact Or.inl rfl | exact Or.inr rfl) (pe_callZ (ok_l_draw T) (hr.mono (by decide)) (by rfl) T.g_l_draw T.F_l_draw.kp T.b_l_draw pass0 (pa_cons (pe_ix (ix_Y (K := K) rfl (hu_of hr)) (pv 0) (pv 1) (fun _ _ => rfl)) pa_nil)))
      (pss_cons (ps_set (i := 3) sc_law.nd rfl (by first | exact Or.inl rfl | exact Or.inr rfl) (pe_ix (ix_Y (K := K) rfl (hu_of hr)) (pe_lst (pa_cons pe_int (pa_cons pe_int (pa_cons pe_int (pa_cons pe_int (pa_cons pe_int (pa_cons (pe_op (op_addZ (K := K) rfl) pe_int (pe_callZ (ok_l_next T) (hr.mono (by decide)) (by rfl) T.g_l_next T.F_l_next.kp T.b_l_next pass0 (pa_cons (pv 2) (pa_cons pe_int pa_nil)))) pa_nil))))))) (pe_callZ (ok_l_next T) (hr.mono (by decide)) (by rfl) T.g_l_next T.F_l_next.kp T.b_l_next pass0 (pa_cons (pv 2) (pa_cons pe_int pa_nil))) (fun _ _ => rfl)))
      (pss_cons (ps_set (i := 4) sc_law.nd rfl (by first | exact Or.inl rfl | exact Or.inr rfl) (pe_ix (ix_Y (K := K) rfl (hu_of hr)) (pe_lst (pa_cons pe_int (pa_cons pe_int (pa_cons (pe_callZ (ok_l_next T) (hr.mono (by decide)) (by rfl) T.g_l_next T.F_l_next.kp T.b_l_next pass0 (pa_cons (pv 2) (pa_cons pe_int pa_nil))) pa_nil)))) (pe_callZ (ok_l_next T) (hr.mono (by decide)) (by rfl) T.g_l_next T.F_l_next.kp T.b_l_next pass0 (pa_cons (pv 2) (pa_cons pe_int pa_nil))) (fun _ _ => rfl)))
      (pss_cons (ps_set (i := 5) sc_law.nd rfl (by first | exact Or.inl rfl | exact Or.inr rfl) (pe_ix (ix_Y (K := K) rfl (hu_of hr)) (pe_lst (pa_cons pe_int (pa_cons pe_int (pa_cons (pe_callZ (ok_l_next T) (hr.mono (by decide)) (by rfl) T.g_l_next T.F_l_next.kp T.b_l_next pass0 (pa_cons (pv 2) (pa_cons pe_int pa_nil))) pa_nil)))) (pe_callZ (ok_l_next T) (hr.mono (by decide)) (by rfl) T.g_l_next T.F_l_next.kp T.b_l_next pass0 (pa_cons (pv 2) (pa_cons pe_int pa_nil))) (fun _ _ => rfl)))
      (pss_cons (ps_set (i := 6) sc_law.nd rfl (by first | exact Or.inl rfl | exact Or.inr rfl) (pe_callZ (ok_l_row T) (hr.mono (by decide)) (by rfl) T.g_l_row T.F_l_row.kp T.b_l_row pass0 (pa_cons (pv 2) pa_nil)))
      (pss_cons (ps_if (PW.pt (pw_and (pt_cmpR op_gt (pv 1) pe_int (nomark _)) (pw_and1 (pt_cmpR op_gt (pe_callB (call_lenY (K := K) rfl) (by rfl) T.z_len PySem.boot_len (pa_cons (pv 6) pa_nil)) pe_int (nomark _))))) (pss_one (ps_set (i := 3) sc_law.nd rfl (by first | exact Or.inl rfl | exact Or.inr rfl) (pe_callB (call_min2Z rfl) (by rfl) T.z_min (by decide +kernel) (pa_cons (pv 3) (pa_cons pe_int pa_nil))))) pss_nil)
      (pss_cons (ps_set (i := 7) sc_law.nd rfl (by first | exact Or.inl rfl | exact Or.inr rfl) (pe_callTy (call_listZ (K := K) rfl) (by rfl) T.z_list (by decide +kernel) (pa_cons (pv 6) pa_nil)))
      (pss_cons (ps_set (i := 8) sc_law.nd rfl (by first | exact Or.inl rfl | exact Or.inr rfl) (pe_callZ (ok_l_due T) (hr.mono (by decide)) (by rfl) T.g_l_due T.F_l_due.kp T.b_l_due pass0 (pa_cons (pv 4) (pa_cons (pv 5) (pa_cons (pv 6) (pa_cons (pv 3) pa_nil))))))
      (pss_cons (ps_set (i := 9) sc_law.nd rfl (by first | exact Or.inl rfl | exact Or.inr rfl) (pe_callZ (ok_piece_row T) (hr.mono (by decide)) (by rfl) T.g_piece_row T.F_piece_row.kp T.b_piece_row passL (pa_cons (pv 4) (pa_cons (pv 5) (pa_cons (pv 7) (pa_cons (pv 3) pa_nil))))))
      (pss_cons (ps_if (PW.pt (pw_or (pt_not (pt_truthZ (K := K) rfl (pe_callB (call_isiZ (K := K) rfl) (by rfl) T.z_isinstance (by decide +kernel) (pa_cons (pv 9) (pa_cons (pe_bltn (v := .ty "list") rfl T.z_list (by decide +kernel) rfl) pa_nil))) (by intro _; rfl))) (pw_or (pt_cmpR (op_neZ (K := K) rfl hr.units) (pv 9) (pv 8) (nomark _)) (pw_or1 (pt_cmpR (op_neZ (K := K) rfl hr.units) (pv 7) (pv 6) (nomark _)))))) (pss_one (ps_ret pe_bl)) pss_nil)
      (pss_cons (ps_expr (pe_bmZ (K := K) rfl PySem.F.plainAttrs_list PySem.F.slot_list_append PySem.F.type_list_append mt_append (pv 9) (pa_cons pe_int pa_nil)))
      (pss_one (ps_if (PW.pt (pw_and (PW.pt (pw_or (pt_cmpR op_gt (pv 1) pe_int (nomark _)) (pw_or1 (pt_cmpR op_lt (pe_callB (call_lenY (K := K) rfl) (by rfl) T.z_len PySem.boot_len (pa_cons (pv 6) pa_nil)) pe_int (nomark _))))) (pw_and1 (pt_cmpR (op_neZ (K := K) rfl hr.units) (pe_callZ (ok_piece_row T) (hr.mono (by decide)) (by rfl) T.g_piece_row T.F_piece_row.kp T.b_piece_row passL (pa_cons (pv 4) (pa_cons (pv 5) (pa_cons (pv 7) (pa_cons (pv 3) pa_nil))))) (pv 8) (nomark _))))) (pss_one (ps_ret pe_bl)) pss_nil))))))))))))))
      (pss_one (ps_ret (pe_cmpR (op_eqZ (K := K) rfl hr.units) (pe_callZ (ok_piece_row T) (hr.mono (by decide)) (by rfl) T.g_piece_row T.F_piece_row.kp T.b_piece_row passL (pa_cons pe_int (pa_cons pe_int (pa_cons (pe_lst pa_nil) (pa_cons pe_int pa_nil))))) (pe_op (op_addZ (K := K) rfl) (pe_lst (pa_cons pe_int (pa_cons pe_int (pa_cons pe_int (pa_cons pe_int (pa_cons pe_int (pa_cons pe_int pa_nil))))))) (pe_callZ (ok_l_sum T) (hr.mono (by decide)) (by rfl) T.g_l_sum T.F_l_sum.kp T.b_l_sum pass0 (pa_cons (pe_lst (pa_cons pe_int (pa_cons pe_int (pa_cons pe_int (pa_cons pe_int pa_nil))))) pa_nil))) (nomark _))))),
    fn_run (np := 1) (N := ["_law_script", "_law_k", "_law_draw_here", "_law_window", "_law_text", "_law_number", "_law_row_here", "_law_handed", "_law_due_here", "_law_found"]) (body := b_law) (by unfold b_law; exact (sv_seq (sv_for (jw_rng1 (ea_cons (ei_cb jb_min2 (ea_cons (ei_c cr_int) (ea_cons (ei_cb jb_len (ea_cons ei_var ea_nil)) ea_nil))) ea_nil)) sg_name (sv_seq (sv_asgK (ei_callN (ev_cons (ei_op j_ixY ei_var ei_var) ev_nil)))
      (sv_seq (sv_asg (ei_op j_ixY (ei_lst (ev_cons (ei_c cr_int) (ev_cons (ei_c cr_int) (ev_cons (ei_c cr_int) (ev_cons (ei_c cr_int) (ev_cons (ei_c cr_int) (ev_cons (ei_op j_add (ei_c cr_int) (ei_callN (ev_cons ei_var (ev_cons (ei_c cr_int) ev_nil)))) ev_nil))))))) (ei_callN (ev_cons ei_var (ev_cons (ei_c cr_int) ev_nil)))))
      (sv_seq (sv_asg (ei_op j_ixY (ei_lst (ev_cons (ei_c cr_int) (ev_cons (ei_c cr_int) (ev_cons (ei_callN (ev_cons ei_var (ev_cons (ei_c cr_int) ev_nil))) ev_nil)))) (ei_callN (ev_cons ei_var (ev_cons (ei_c cr_int) ev_nil)))))
      (sv_seq (sv_asg (ei_op j_ixY (ei_lst (ev_cons (ei_c cr_int) (ev_cons (ei_c cr_int) (ev_cons (ei_callN (ev_cons ei_var (ev_cons (ei_c cr_int) ev_nil))) ev_nil)))) (ei_callN (ev_cons ei_var (ev_cons (ei_c cr_int) ev_nil)))))
      (sv_seq (sv_asg (ei_callN (ev_cons ei_var ev_nil)))
      (sv_seq (sv_if (et_and (et_tst (ei_op (j_I0 fun _ _ => cr_bl) ei_var (ei_c cr_int))) (et_tst (ei_op (j_I0 fun _ _ => cr_bl) (ei_cb jb_len (ea_cons ei_var ea_nil)) (ei_c cr_int)))) (sv_asg (ei_cb jb_min2 (ea_cons ei_var (ea_cons (ei_c cr_int) ea_nil)))) sv_next)
      (sv_seq (sv_asg (ei_cb jb_list (ea_cons ei_var ea_nil)))
      (sv_seq (sv_asg (ei_callN (ev_cons ei_var (ev_cons ei_var (ev_cons ei_var (ev_cons ei_var ev_nil))))))
      (sv_seq (sv_asg (ei_callN (ev_cons ei_var (ev_cons ei_var (ev_cons ei_var (ev_cons ei_var ev_nil))))))
      (sv_seq (sv_if (et_or (et_not (et_tru (ei_cb jb_isi (ea_cons ei_var (ea_cons (ei_c cr_ty) ea_nil))))) (et_or (et_tst (ei_op j_ne ei_var ei_var)) (et_tst (ei_op j_ne ei_var ei_var)))) (sv_ret (ei_c cr_bl)) sv_next)
      (sv_seq (sv_drop (ei_bm jm_app ei_var (ev_cons (ei_c cr_int) ev_nil)))
      (sv_if (et_and (et_or (et_tst (ei_op (j_I0 fun _ _ => cr_bl) ei_var (ei_c cr_int))) (et_tst (ei_op (j_I0 fun _ _ => cr_bl) (ei_cb jb_len (ea_cons ei_var ea_nil)) (ei_c cr_int)))) (et_tst (ei_op j_ne (ei_callN (ev_cons ei_var (ev_cons ei_var (ev_cons ei_var (ev_cons ei_var ev_nil))))) ei_var))) (sv_ret (ei_c cr_bl)) sv_next)))))))))))))
      (sv_ret (ei_op j_eq (ei_callN (ev_cons (ei_c cr_int) (ev_cons (ei_c cr_int) (ev_cons (ei_lst ev_nil) (ev_cons (ei_c cr_int) ev_nil))))) (ei_op j_add (ei_lst (ev_cons (ei_c cr_int) (ev_cons (ei_c cr_int) (ev_cons (ei_c cr_int) (ev_cons (ei_c cr_int) (ev_cons (ei_c cr_int) (ev_cons (ei_c cr_int) ev_nil))))))) (ei_callN (ev_cons (ei_lst (ev_cons (ei_c cr_int) (ev_cons (ei_c cr_int) (ev_cons (ei_c cr_int) (ev_cons (ei_c cr_int) ev_nil))))) ev_nil))))))) h⟩)
/-! ### the sum, in plain Lean -/
def cstp (f : Nat) : Nat := if f &&& 32768 = 0 then f * 2 else ((f ^^^ 32768) * 2) ^^^ 4129
def citr : Nat → Nat → Nat
  | 0, x => x
  | n + 1, x => cstp (citr n x)
def byt8 (f : Nat) (b : Int) : Nat := citr 8 (f ^^^ (b.toNat * 256))
def crcN (f : Nat) (ns : List Int) : Nat := ns.foldl byt8 f
theorem bit_top (i : Nat) : (32768 : Nat).testBit i = decide (15 = i) := Nat.testBit_two_pow (n := 15) (m := i)
theorem top_zero (f : Nat) : f &&& 32768 = 0 ↔ f.testBit 15 = false := by
  constructor
  · intro h
    have e : (f &&& 32768).testBit 15 = (0 : Nat).testBit 15 := by rw [h]
    rw [Nat.testBit_and, bit_top] at e
    simpa using e
  · intro h
    refine Nat.eq_of_testBit_eq fun i => ?_
    rw [Nat.testBit_and, bit_top, Nat.zero_testBit]
    by_cases e : 15 = i
    · subst e; rw [h] <;> rfl
    · simp [e]
theorem bit_mul2 (x i : Nat) : (x * 2).testBit i = (decide (1 ≤ i) && x.testBit (i - 1)) := by
  have e : x * 2 = x <<< 1 := by rw [Nat.shiftLeft_eq]
  rw [e, Nat.testBit_shiftLeft]
theorem hi_false {f n i : Nat} (h : f < 2 ^ n) (hi : n ≤ i) : f.testBit i = false := Nat.testBit_lt_two_pow (Nat.lt_of_lt_of_le h (Nat.pow_le_pow_right (by decide) hi))
theorem cstp_bit {f : Nat} (hf : f < 2 ^ 16) (i : Nat) : (cstp f).testBit i = ((decide (1 ≤ i ∧ i < 16) && f.testBit (i - 1)) ^^ (f.testBit 15 && (4129 : Nat).testBit i)) := by
  unfold cstp
  by_cases h : f &&& 32768 = 0
  · rw [if_pos h, bit_mul2]
    have ht := (top_zero f).mp h
    rw [ht]
    by_cases h16 : i < 16
    · simp [h16]
    · have : f.testBit (i - 1) = false := by
        by_cases e : i = 16
        · subst e; exact ht
        · exact hi_false hf (by omega)
      simp [this]
  · rw [if_neg h, Nat.testBit_xor, bit_mul2, Nat.testBit_xor, bit_top]
    have ht : f.testBit 15 = true := by
      cases q : f.testBit 15 with
      | true => rfl
      | false => exact absurd ((top_zero f).mpr q) h
    rw [ht]
    by_cases h1 : 1 ≤ i
    · by_cases h16 : i < 16
      · have : ¬ 15 = i - 1 := by omega
        simp [h1, h16, this]
      · by_cases e : i = 16
        · subst e; simp [ht]
        · have q : f.testBit (i - 1) = false := hi_false hf (by omega)
          have : ¬ 15 = i - 1 := by omega
          simp [h16, q, this]
    · simp [h1]
theorem lt_of_bits {x n : Nat} (h : ∀ i, n ≤ i → x.testBit i = false) : x < 2 ^ n := Nat.lt_pow_two_of_testBit x h
theorem feed_hi {i : Nat} (h : 16 ≤ i) : (4129 : Nat).testBit i = false := hi_false (n := 16) (by decide) h
theorem cstp_lt {f : Nat} (hf : f < 2 ^ 16) : cstp f < 2 ^ 16 := lt_of_bits fun i hi => by
  rw [cstp_bit hf, feed_hi hi]
  have : ¬ i < 16 := by omega
  simp [this]
theorem citr_lt {f : Nat} (hf : f < 2 ^ 16) : ∀ n, citr n f < 2 ^ 16
  | 0 => hf
  | n + 1 => cstp_lt (citr_lt hf n)
theorem xor_byte_lt {f : Nat} {b : Int} (hf : f < 2 ^ 16) (hb : 0 ≤ b ∧ b < 256) : f ^^^ (b.toNat * 256) < 2 ^ 16 := Nat.xor_lt_two_pow hf (by omega)
theorem byt8_lt {f : Nat} {b : Int} (hf : f < 2 ^ 16) (hb : 0 ≤ b ∧ b < 256) : byt8 f b < 2 ^ 16 := citr_lt (xor_byte_lt hf hb) 8
theorem crcN_lt : ∀ {ns : List Int} {f : Nat}, f < 2 ^ 16 → Z.Byt ns → crcN f ns < 2 ^ 16
  | [], _, hf, _ => hf
  | b :: ns, f, hf, hb => crcN_lt (ns := ns) (byt8_lt hf (hb b (List.mem_cons_self))) fun n h => hb n (List.mem_cons_of_mem _ h)
theorem crcN_app (f : Nat) (xs ys : List Int) : crcN f (xs ++ ys) = crcN (crcN f xs) ys := List.foldl_append
theorem take_more {α : Type} {l : List α} {i : Nat} {x : α} (h : l[i]? = some x) : l.take (i + 1) = l.take i ++ [x] := by rw [List.take_add_one, h] <;> rfl
theorem crcN_more {ns : List Int} {i : Nat} {b : Int} {f : Nat} (h : ns[i]? = some b) : crcN f (ns.take (i + 1)) = byt8 (crcN f (ns.take i)) b := by
  rw [take_more h, crcN_app] <;> rfl
theorem byt_take {ns : List Int} {i : Nat} (h : Z.Byt ns) : Z.Byt (ns.take i) := fun n hn => h n (List.mem_of_mem_take hn)
theorem byt_at {ns : List Int} {i : Nat} {b : Int} (h : Z.Byt ns) (e : ns[i]? = some b) : 0 ≤ b ∧ b < 256 := h b (List.mem_of_getElem? e)
theorem cstp_int0 {x : Nat} (h : Builtin.bitAnd (x : Int) 32768 = 0) : (x : Int) * 2 ^ (1 : Int).toNat = ((cstp x : Nat) : Int) := by
  have e : Builtin.bitAnd (x : Int) 32768 = ((x &&& 32768 : Nat) : Int) := Z.and_nat x 32768
  rw [e] at h
  have h' : x &&& 32768 = 0 := by omega
  unfold cstp
  rw [if_pos h']
  simp
theorem cstp_int1 {x : Nat} (h : ¬ Builtin.bitAnd (x : Int) 32768 = 0) : Builtin.bitXor (Builtin.bitXor (x : Int) 32768 * 2 ^ (1 : Int).toNat) 4129 = ((cstp x : Nat) : Int) := by
  have e : Builtin.bitAnd (x : Int) 32768 = ((x &&& 32768 : Nat) : Int) := Z.and_nat x 32768
  rw [e] at h
  have h' : ¬ x &&& 32768 = 0 := by omega
  have e1 : Builtin.bitXor (x : Int) 32768 = ((x ^^^ 32768 : Nat) : Int) := Z.xor_nat x 32768
  have e2 : ((x ^^^ 32768 : Nat) : Int) * 2 ^ (1 : Int).toNat = (((x ^^^ 32768) * 2 : Nat) : Int) := by simp
  have e3 : Builtin.bitXor (((x ^^^ 32768) * 2 : Nat) : Int) 4129 = ((((x ^^^ 32768) * 2) ^^^ 4129 : Nat) : Int) := Z.xor_nat _ 4129
  unfold cstp
  rw [if_neg h', e1, e2, e3]
theorem byte_int {f : Nat} {b : Int} (hb : 0 ≤ b ∧ b < 256) : Builtin.bitXor (f : Int) (b * 2 ^ (8 : Int).toNat) = ((f ^^^ (b.toNat * 256) : Nat) : Int) := by
  have e : b * 2 ^ (8 : Int).toNat = ((b.toNat * 256 : Nat) : Int) := by
    have : ((8 : Int).toNat) = 8 := rfl
    rw [this]
    omega
  rw [e]
  exact Z.xor_nat _ _

/-! ### the sum, walked -/
theorem shl_nat {x : Nat} {j : Int} {m : Nat} (hx : x < 2 ^ m) (hm : m ≤ 1000000) (h0 : 0 ≤ j) (h1 : j ≤ 1000000) : CShl (x : Int) j := cshl_N (m := m) (by omega) hm h0 h1
theorem shl_byte {b : Int} (hb : 0 ≤ b ∧ b < 256) : CShl b 8 := cshl_N (m := 8) (by have : (2 : Nat) ^ 8 = 256 := rfl; omega) (by decide) (by decide) (by decide)
theorem stp0 {x : Nat} (h : Builtin.bitAnd (x : Int) 32768 = 0) : (x : Int) * 2 ^ (1 : Int).toNat = ((cstp x : Nat) : Int) := cstp_int0 h
theorem stp1 {x : Nat} (h : ¬ Builtin.bitAnd (x : Int) 32768 = 0) : Builtin.bitXor (Builtin.bitXor (x : Int) 32768 * 2 ^ (1 : Int).toNat) 4129 = ((cstp x : Nat) : Int) := cstp_int1 h
theorem crc_on_ok {ns : List Int} {f : Nat} (hf : f < 2 ^ 16) (hb : Z.Byt ns) (M : List Cn) : m_crc_on [.int (f : Int), .lst (ns.map D.int)] M = .ok (.val (.int (crcN f ns : Nat))) M := by
  refine fo_ok (P := fun _ _ => True) ?_
  walk_at "f0"; unfold b_crc_on
  walk_at "w"
  refine w_forN (fun i s => ∃ e3 e4 : Option Ent, s = ⟨[some (.fz (.int (f : Int))), some (.fz (.lst (ns.map D.int))), some (.fz (.int (crcN f (ns.take i) : Nat))), e3, e4], M⟩) ⟨_, _, rfl⟩ ?_ ?_
  · rintro i y s hi ⟨e3, e4, rfl⟩
    obtain ⟨b, hbi, rfl⟩ := map_get hi
    have hbb := byt_at hb hbi
    have hlt := crcN_lt (ns := ns.take i) hf (byt_take hb)
    rw [crcN_more hbi]
    generalize crcN f (ns.take i) = g at *
    have sh8 := shl_byte hbb
    walk_at "w"
    rw [byte_int hbb]
    have hx := xor_byte_lt hlt hbb
    generalize hX : g ^^^ (b.toNat * 256) = x0 at *
    walk_at "w"
    refine w_forN (fun j s => ∃ e4 : Option Ent, s = ⟨[some (.fz (.int (f : Int))), some (.fz (.lst (ns.map D.int))), some (.fz (.int (citr j x0 : Nat))), some (.fz (.int b)), e4], M⟩) ⟨_, rfl⟩ ?_ ?_
    · rintro j y s hj ⟨e4, rfl⟩
      have hl := citr_lt hx j
      have en : citr (j + 1) x0 = cstp (citr j x0) := rfl
      rw [en]
      generalize citr j x0 = x at *
      walk_at "w"
      by_cases h : Builtin.bitAnd (x : Int) 32768 = 0
      · refine z_b0 (by rw [decide_eq_true h]; rfl) ?_
        have sh := shl_nat (x := x) (j := 1) (m := 16) hl (by decide) (by decide) (by decide)
        walk_at "w"
        rw [stp0 h]
        exact ⟨_, rfl⟩
      · refine z_b1 (by rw [decide_eq_false h]; rfl) ?_
        have hx1 : Builtin.bitXor (x : Int) 32768 = ((x ^^^ 32768 : Nat) : Int) := Z.xor_nat x 32768
        have hl1 : x ^^^ 32768 < 2 ^ 16 := Nat.xor_lt_two_pow hl (by decide)
        have sh : CShl (Builtin.bitXor (x : Int) 32768) 1 := by rw [hx1]; exact shl_nat hl1 (by decide) (by decide) (by decide)
        walk_at "w"
        rw [stp1 h]
        exact ⟨_, rfl⟩
    · rintro s ⟨e4, rfl⟩
      rw [rng_len]
      exact ⟨_, _, by unfold byt8; rw [hX]; rfl⟩
  · rintro s ⟨e3, e4, rfl⟩
    rw [List.length_map, List.take_length]
    walk_at "w"
    exact ⟨rfl, rfl⟩
def crcB (ns : List Int) : List Int := [((crcN 65535 ns : Nat) : Int) / 256, ((crcN 65535 ns : Nat) : Int) % 256]
theorem crcB_bd {ns : List Int} (h : Z.Byt ns) : Z.Byt (crcB ns) := fun x hx => by
  have := crcN_lt (ns := ns) (f := 65535) (by decide) h
  have e : (2 : Nat) ^ 16 = 65536 := rfl
  unfold crcB at hx
  rcases List.mem_cons.mp hx with rfl | hx
  · omega
  · rw [List.mem_singleton.mp hx]; omega
theorem crcB_len (ns : List Int) : (crcB ns).length = 2 := rfl
theorem crc_row_ok {ns : List Int} (hb : Z.Byt ns) (M : List Cn) : m_crc_row [.lst (ns.map D.int)] M = .ok (.new (.lst ((crcB ns).map D.int))) M := by
  refine fo_ok (P := fun _ _ => True) ?_
  walk_at "f0"; unfold b_crc_row
  walk_at "w"
  refine fo_eq (a := .val (.int (crcN 65535 ns : Nat))) (M' := M) (fo_ok (P := fun _ _ => True) ?_) ?_
  · walk_at "f0"; unfold b_crc
    walk_at "w"
    refine fo_eq (crc_on_ok (f := 65535) (by decide) hb M) ?_
    walk_at "w"
    exact ⟨rfl, rfl⟩
  walk_at "w"
  refine ⟨?_, rfl⟩
  have e : Builtin.bitAnd ((crcN 65535 ns : Nat) : Int) 255 = ((crcN 65535 ns &&& 255 : Nat) : Int) := Z.and_nat _ 255
  rw [e, show crcN 65535 ns &&& 255 = crcN 65535 ns % 256 from Nat.and_two_pow_sub_one_eq_mod _ 8]
  rfl
/-! ### the law's own sum -/
theorem law_step {f : Nat} (hf : f < 2 ^ 16) : (if 65535 < f * 2 then ((f * 2) ^^^ 4129) &&& 65535 else f * 2) = cstp f := by
  refine Nat.eq_of_testBit_eq fun i => ?_
  rw [cstp_bit hf]
  have e16 : (2 : Nat) ^ 16 = 65536 := rfl
  have hm : (65535 : Nat).testBit i = decide (i < 16) := Nat.testBit_two_pow_sub_one (n := 16) (i := i)
  by_cases h : 65535 < f * 2
  · have ht : f.testBit 15 = true := by
      cases q : f.testBit 15 with
      | true => rfl
      | false =>
        have : f < 2 ^ 15 := lt_of_bits fun k hk => by
          by_cases e : k = 15
          · rw [e]; exact q
          · exact hi_false hf (by omega)
        have e15 : (2 : Nat) ^ 15 = 32768 := rfl
        omega
    rw [if_pos h, Nat.testBit_and, Nat.testBit_xor, bit_mul2, hm, ht]
    by_cases h16 : i < 16
    · simp [h16]
    · simp [h16, feed_hi (show 16 ≤ i by omega)]
  · have e15 : (2 : Nat) ^ 15 = 32768 := rfl
    have ht : f.testBit 15 = false := Nat.testBit_lt_two_pow (by omega)
    rw [if_neg h, bit_mul2, ht]
    by_cases h16 : i < 16
    · simp [h16]
    · have : f.testBit (i - 1) = false := hi_false (n := 15) (by omega) (by omega)
      simp [this]
theorem l_sum_ok {ns : List Int} (hb : Z.Byt ns) (M : List Cn) : m_l_sum [.lst (ns.map D.int)] M = .ok (.new (.lst ((crcB ns).map D.int))) M := by
  refine fo_ok (P := fun _ _ => True) ?_
  walk_at "f0"; unfold b_l_sum
  walk_at "w"
  refine w_forN (fun i s => ∃ e3 e4 : Option Ent, s = ⟨[some (.fz (.lst (ns.map D.int))), some (.fz (.int (crcN 65535 (ns.take i) : Nat))), e3, e4], M⟩) ⟨_, _, rfl⟩ ?_ ?_
  · rintro i y s hi ⟨e3, e4, rfl⟩
    obtain ⟨b, hbi, rfl⟩ := map_get hi
    have hbb := byt_at hb hbi
    have hlt := crcN_lt (ns := ns.take i) (f := 65535) (by decide) (byt_take hb)
    rw [crcN_more hbi]
    generalize crcN 65535 (ns.take i) = g at *
    have sh8 := shl_byte hbb
    walk_at "w"
    rw [byte_int hbb]
    have hx := xor_byte_lt hlt hbb
    generalize hX : g ^^^ (b.toNat * 256) = x0 at *
    walk_at "w"
    refine w_forN (fun j s => ∃ e4 : Option Ent, s = ⟨[some (.fz (.lst (ns.map D.int))), some (.fz (.int (citr j x0 : Nat))), some (.fz (.int b)), e4], M⟩) ⟨_, rfl⟩ ?_ ?_
    · rintro j y s hj ⟨e4, rfl⟩
      have hl := citr_lt hx j
      have en : citr (j + 1) x0 = cstp (citr j x0) := rfl
      rw [en]
      generalize citr j x0 = x at *
      have sh := shl_nat (x := x) (j := 1) (m := 16) hl (by decide) (by decide) (by decide)
      have e2 : (x : Int) * 2 ^ (1 : Int).toNat = ((x * 2 : Nat) : Int) := by
        rw [show (1 : Int).toNat = 1 from rfl]; omega
      have hst := law_step hl
      walk_at "w"
      rw [e2]
      refine z_if (fun h => ?_) (fun h => ?_)
      · walk_at "w"
        rw [if_pos (by omega)] at hst
        have ex : Builtin.bitXor ((x * 2 : Nat) : Int) 4129 = ((x * 2 ^^^ 4129 : Nat) : Int) := Z.xor_nat _ 4129
        have ea : Builtin.bitAnd ((x * 2 ^^^ 4129 : Nat) : Int) 65535 = (((x * 2 ^^^ 4129) &&& 65535 : Nat) : Int) := Z.and_nat _ 65535
        rw [ex, ea, hst]
        exact ⟨_, rfl⟩
      · walk_at "w"
        rw [if_neg (by omega)] at hst
        rw [hst]
        exact ⟨_, rfl⟩
    · rintro s ⟨e4, rfl⟩
      rw [rng_len]
      exact ⟨_, _, by unfold byt8; rw [hX]; rfl⟩
  · rintro s ⟨e3, e4, rfl⟩
    rw [List.length_map, List.take_length]
    walk_at "w"
    exact ⟨rfl, rfl⟩

/-! ### parts: numbers and weights -/
abbrev Pt := Int × Int
def dD (ps : List Pt) : List (Key × D) := ps.map fun p => (Sum.inl p.1, D.int p.2)
def vlP (ps : List Pt) (k : Int) : Option Int := (ps.find? fun p => decide (p.1 = k)).map (·.2)
def drP (ps : List Pt) (k : Int) : List Pt := ps.filter fun p => decide (p.1 ≠ k)
theorem key_dec (a b : Int) : decide ((Sum.inl a : Key) = Sum.inl b) = decide (a = b) := by
  by_cases h : a = b
  · subst h; rw [decide_eq_true rfl, decide_eq_true rfl]
  · rw [decide_eq_false h, decide_eq_false (fun q => h (Sum.inl.inj q))]
theorem vl_dD (ps : List Pt) (k : Int) : vl (dD ps) (.inl k) = (vlP ps k).map D.int := by
  unfold vl dD vlP
  induction ps with
  | nil => rfl
  | cons p ps ih =>
    rw [List.map_cons, List.find?_cons, List.find?_cons, key_dec]
    by_cases h : p.1 = k
    · rw [decide_eq_true h]; rfl
    · rw [decide_eq_false h]; exact ih
theorem dr_dD (ps : List Pt) (k : Int) : dr (dD ps) (.inl k) = dD (drP ps k) := by
  unfold dr dD drP
  rw [List.filter_map]
  congr 1
  refine List.filter_congr fun p _ => ?_
  show decide ((Sum.inl p.1 : Key) ≠ Sum.inl k) = decide (p.1 ≠ k)
  have := key_dec p.1 k
  rw [show decide ((Sum.inl p.1 : Key) ≠ Sum.inl k) = !decide ((Sum.inl p.1 : Key) = Sum.inl k) from by simp, this]; simp
theorem pu_new {ps : List Pt} {k w : Int} (h : ∀ p ∈ ps, p.1 ≠ k) : pu (dD ps) (.inl k) (.int w) = dD (ps ++ [(k, w)]) := by
  unfold pu
  rw [if_neg]
  · unfold dD; rw [List.map_append]; rfl
  · intro q
    rw [List.any_eq_true] at q
    obtain ⟨x, hx, hq⟩ := q
    obtain ⟨p, hp, rfl⟩ := List.mem_map.mp hx
    exact h p hp (Sum.inl.inj (of_decide_eq_true hq))
theorem dD_len (ps : List Pt) : (dD ps).length = ps.length := List.length_map ..
/-- each number once -/
def Nd (ps : List Pt) : Prop := (ps.map Prod.fst).Nodup
theorem vlP_mem : ∀ {ps : List Pt} {p : Pt}, Nd ps → p ∈ ps → vlP ps p.1 = some p.2
  | q :: ps, p, hn, hp => by
    unfold vlP
    rw [List.find?_cons]
    have hn : (q.1 :: ps.map Prod.fst).Nodup := hn
    rcases List.mem_cons.mp hp with rfl | hp
    · rw [decide_eq_true rfl]; rfl
    · have hne : q.1 ≠ p.1 := fun z => by
        have := (List.nodup_cons.mp hn).1
        exact this (z ▸ List.mem_map_of_mem hp)
      rw [decide_eq_false hne]
      exact vlP_mem (List.nodup_cons.mp hn).2 hp
theorem drP_nd {ps : List Pt} {k : Int} (h : Nd ps) : Nd (drP ps k) := h.sublist (List.filter_sublist.map _)
theorem drP_mem {ps : List Pt} {k : Int} {p : Pt} : p ∈ drP ps k ↔ p ∈ ps ∧ p.1 ≠ k := by
  unfold drP; rw [List.mem_filter, decide_eq_true_eq]
theorem drP_len : ∀ {ps : List Pt} {p : Pt}, Nd ps → p ∈ ps → (drP ps p.1).length + 1 = ps.length
  | q :: ps, p, hn, hp => by
    have hn : (q.1 :: ps.map Prod.fst).Nodup := hn
    obtain ⟨h1, h2⟩ := List.nodup_cons.mp hn
    unfold drP
    rw [List.filter_cons]
    rcases List.mem_cons.mp hp with rfl | hp
    · rw [if_neg (by simp), List.length_cons]
      rw [List.filter_eq_self.mpr (fun x hx => decide_eq_true (fun (z : x.1 = _) => h1 (by have := List.mem_map_of_mem (f := Prod.fst) hx; rw [z] at this; exact this)))]
    · have hne : q.1 ≠ p.1 := fun z => h1 (z ▸ List.mem_map_of_mem hp)
      rw [if_pos (decide_eq_true hne), List.length_cons, List.length_cons]
      have := drP_len h2 hp
      unfold drP at this
      omega
/-! ### the least part -/
abbrev sw (p : Pt) : Pt := (p.2, p.1)
def least : List Pt → Pt
  | [] => (0, 0)
  | p :: ps => sw (minP (sw p) (ps.map sw))
theorem minP_mem : ∀ (ps : List Pt) (p : Pt), minP p ps ∈ p :: ps
  | [], p => List.mem_singleton.mpr rfl
  | y :: ps, p => by
    show minP (if ltP y p = true then y else p) ps ∈ _
    have := minP_mem ps (if ltP y p = true then y else p)
    rcases List.mem_cons.mp this with h | h
    · rw [h]; split
      · exact List.mem_cons_of_mem _ (List.mem_cons_self ..)
      · exact List.mem_cons_self ..
    · exact List.mem_cons_of_mem _ (List.mem_cons_of_mem _ h)
theorem minP_le : ∀ (ps : List Pt) (p : Pt), ∀ y ∈ p :: ps, (minP p ps).1 ≤ y.1
  | [], p, y, h => by rw [List.mem_singleton.mp h]; exact Int.le_refl _
  | z :: ps, p, y, h => by
    show (minP (if ltP z p = true then z else p) ps).1 ≤ y.1
    have ih := minP_le ps (if ltP z p = true then z else p)
    have hc := ih _ (List.mem_cons_self ..)
    have h1 : (if ltP z p = true then z else p).1 ≤ z.1 ∧ (if ltP z p = true then z else p).1 ≤ p.1 := by
      by_cases q : ltP z p = true
      · rw [if_pos q]
        have := of_decide_eq_true q
        omega
      · rw [if_neg q]
        have : ¬ (z.1 < p.1 ∨ (z.1 = p.1 ∧ z.2 < p.2)) := fun w => q (decide_eq_true w)
        omega
    rcases List.mem_cons.mp h with rfl | h
    · omega
    · rcases List.mem_cons.mp h with rfl | h
      · omega
      · exact ih y (List.mem_cons_of_mem _ h)
theorem least_mem {ps : List Pt} (h : ps ≠ []) : least ps ∈ ps := by
  cases ps with
  | nil => exact absurd rfl h
  | cons p ps =>
    have := minP_mem (ps.map sw) (sw p)
    have h2 : minP (sw p) (ps.map sw) ∈ (p :: ps).map sw := this
    obtain ⟨q, hq, e⟩ := List.mem_map.mp h2
    show sw (minP (sw p) (ps.map sw)) ∈ _
    rw [← e]; exact hq
theorem least_le {ps : List Pt} : ∀ y ∈ ps, (least ps).2 ≤ y.2 := by
  intro y hy
  cases ps with
  | nil => simp at hy
  | cons p ps =>
    have := minP_le (ps.map sw) (sw p) (sw y) (List.mem_map_of_mem (f := sw) hy)
    exact this
/-! ### two put together -/
def one (ps : List Pt) : Pt := least ps
def oth (ps : List Pt) : Pt := least (drP ps (one ps).1)
def rst (ps : List Pt) : List Pt := drP (drP ps (one ps).1) (oth ps).1
def nxt (n : Int) (ps : List Pt) : List Pt := rst ps ++ [(n, (one ps).2 + (oth ps).2)]
theorem one_mem {ps : List Pt} (h : 1 < ps.length) : one ps ∈ ps := least_mem (fun z => by subst z; simp at h)
theorem oth_mem {ps : List Pt} (hn : Nd ps) (h : 1 < ps.length) : oth ps ∈ drP ps (one ps).1 := least_mem (fun z => by
  have := drP_len hn (one_mem h)
  rw [z] at this; simp at this; omega)
theorem oth_ne {ps : List Pt} (hn : Nd ps) (h : 1 < ps.length) : (oth ps).1 ≠ (one ps).1 := (drP_mem.mp (oth_mem hn h)).2
theorem oth_in {ps : List Pt} (hn : Nd ps) (h : 1 < ps.length) : oth ps ∈ ps := (drP_mem.mp (oth_mem hn h)).1
theorem rst_len {ps : List Pt} (hn : Nd ps) (h : 1 < ps.length) : (rst ps).length + 2 = ps.length := by
  have h1 := drP_len hn (one_mem h)
  have h2 := drP_len (drP_nd hn) (oth_mem hn h)
  unfold rst
  omega
theorem rst_ge {ps : List Pt} (hn : Nd ps) (h : 1 < ps.length) : ∀ y ∈ rst ps, (one ps).2 ≤ y.2 ∧ (oth ps).2 ≤ y.2 := fun y hy => by
  obtain ⟨h1, _⟩ := drP_mem.mp hy
  exact ⟨least_le y (drP_mem.mp h1).1, least_le y h1⟩
/-- behind k turns -/
def stF (n : Int) (ps : List Pt) : Nat → List Pt
  | 0 => ps
  | k + 1 => nxt (n + k) (stF n ps k)
structure Pk (n : Int) (k : Nat) (ps : List Pt) : Prop where
  nd : Nd ps
  lt : ∀ p ∈ ps, p.1 < n + k
  ge : ∀ p ∈ ps, 0 ≤ p.2
theorem Pk.next {n : Int} {k : Nat} {ps : List Pt} (h : Pk n k ps) (hl : 1 < ps.length) : Pk n (k + 1) (nxt (n + k) ps) := by
  have hr : ∀ p ∈ rst ps, p ∈ ps := fun p hp => (drP_mem.mp (drP_mem.mp hp).1).1
  have w1 := h.ge _ (one_mem hl)
  have w2 := h.ge _ (oth_in h.nd hl)
  refine ⟨?_, fun p hp => ?_, fun p hp => ?_⟩
  · show ((rst ps ++ [(n + k, _)]).map Prod.fst).Nodup
    rw [List.map_append, List.nodup_append]
    refine ⟨drP_nd (drP_nd h.nd), by simp, fun a ha b hb => ?_⟩
    obtain ⟨p, hp, rfl⟩ := List.mem_map.mp ha
    simp at hb
    subst hb
    have := h.lt p (hr p hp)
    omega
  · rcases List.mem_append.mp hp with hp | hp
    · have := h.lt p (hr p hp); push_cast; omega
    · simp at hp; subst hp; show n + k < n + ((k + 1 : Nat) : Int); push_cast; omega
  · rcases List.mem_append.mp hp with hp | hp
    · exact h.ge p (hr p hp)
    · simp at hp; subst hp; show 0 ≤ (one ps).2 + (oth ps).2; omega
theorem stF_ok {n : Int} {ps : List Pt} (h : Pk n 0 ps) : ∀ k, k + 1 ≤ ps.length → Pk n k (stF n ps k) ∧ (stF n ps k).length + k = ps.length
  | 0, _ => ⟨h, rfl⟩
  | k + 1, hk => by
    obtain ⟨h1, h2⟩ := stF_ok h k (by omega)
    have hl : 1 < (stF n ps k).length := by omega
    refine ⟨h1.next hl, ?_⟩
    show (rst (stF n ps k) ++ [_]).length + (k + 1) = _
    rw [List.length_append]
    have := rst_len h1.nd hl
    show (rst (stF n ps k)).length + 1 + (k + 1) = _
    omega
def pairAt (n : Int) (ps : List Pt) (k : Nat) : Pt := ((one (stF n ps k)).1, (oth (stF n ps k)).1)
def paper (n : Int) (ps : List Pt) : List Pt := (List.range (ps.length - 1)).map (pairAt n ps)
/-- the first parts of counts -/
def fpF (k : Int) : List Int → List Pt
  | [] => []
  | c :: cs => if 0 < c then (k, c) :: fpF (k + 1) cs else fpF (k + 1) cs
theorem fpF_mem : ∀ {cs : List Int} {k : Int} {p : Pt}, p ∈ fpF k cs → k ≤ p.1 ∧ p.1 < k + cs.length ∧ 0 < p.2
  | [], _, _, h => by cases h
  | c :: cs, k, p, h => by
    unfold fpF at h
    rw [List.length_cons]
    split at h
    · rename_i hc
      rcases List.mem_cons.mp h with rfl | h
      · exact ⟨Int.le_refl _, by push_cast; show k < k + (_ + 1); omega, hc⟩
      · have := fpF_mem h; push_cast; omega
    · have := fpF_mem h; push_cast; omega
theorem fpF_nd : ∀ (cs : List Int) (k : Int), Nd (fpF k cs)
  | [], _ => List.nodup_nil
  | c :: cs, k => by
    unfold fpF
    split
    · refine List.nodup_cons.mpr ⟨fun h => ?_, fpF_nd cs (k + 1)⟩
      obtain ⟨p, hp, e⟩ := List.mem_map.mp h
      have := (fpF_mem hp).1
      have e : p.1 = k := e
      omega
    · exact fpF_nd cs (k + 1)
theorem fpF_pk (cs : List Int) : Pk (cs.length : Int) 0 (fpF 0 cs) := ⟨fpF_nd cs 0, fun p h => by have := fpF_mem h; push_cast; omega, fun p h => by have := fpF_mem h; omega⟩
theorem fpF_len : ∀ (cs : List Int) (k : Int), (fpF k cs).length ≤ cs.length
  | [], _ => Nat.le_refl _
  | c :: cs, k => by
    unfold fpF
    have := fpF_len cs (k + 1)
    split
    · rw [List.length_cons, List.length_cons]; omega
    · rw [List.length_cons]; omega
theorem fpF_snoc : ∀ (cs : List Int) (k c : Int), fpF k (cs ++ [c]) = fpF k cs ++ (if 0 < c then [(k + cs.length, c)] else [])
  | [], k, c => by
    show (if 0 < c then (k, c) :: fpF (k + 1) [] else fpF (k + 1) []) = [] ++ _
    split
    · show [(k, c)] = [] ++ [(k + ((0 : Nat) : Int), c)]; simp
    · rfl
  | x :: cs, k, c => by
    show (if 0 < x then (k, x) :: fpF (k + 1) (cs ++ [c]) else fpF (k + 1) (cs ++ [c])) = (if 0 < x then (k, x) :: fpF (k + 1) cs else fpF (k + 1) cs) ++ _
    rw [fpF_snoc cs (k + 1) c, List.length_cons]
    rw [show k + ((cs.length + 1 : Nat) : Int) = k + 1 + (cs.length : Int) by push_cast; omega]
    split <;> simp
theorem noId_dD : ∀ ps : List Pt, D.noIdK (dD ps) = true
  | [] => rfl
  | p :: ps => by show (true && D.noIdK (dD ps)) = true; rw [noId_dD ps]; rfl
structure Cts (cs : List Int) : Prop where
  pos : 1 ≤ cs.length
  few : cs.length ≤ 64
  bd : ∀ c ∈ cs, 0 ≤ c ∧ c ≤ 1000
  sum : cs.sum ≤ 1000

theorem kPairs_map (ps : List Pt) : kPairs (ps.map tP) = some (dD ps) := by
  induction ps with
  | nil => rfl
  | cons p ps ih => show (kPair (tP p)).bind (fun q => (kPairs (ps.map tP)).map (q :: ·)) = _; rw [ih]; rfl
theorem mgD_go : ∀ (ps acc : List Pt), Nd (acc ++ ps) → (dD ps).foldl (fun a p => pu a p.1 p.2) (dD acc) = dD (acc ++ ps)
  | [], acc, _ => by rw [List.append_nil]; rfl
  | p :: ps, acc, h => by
    have hne : ∀ q ∈ acc, q.1 ≠ p.1 := fun q hq z => by
      have h' : (acc.map Prod.fst ++ (p :: ps).map Prod.fst).Nodup := by rw [← List.map_append]; exact h
      exact (List.nodup_append.mp h').2.2 q.1 (List.mem_map_of_mem hq) p.1 (List.mem_map_of_mem (List.mem_cons_self ..)) z
    show (dD ps).foldl (fun a p => pu a p.1 p.2) (pu (dD acc) (.inl p.1) (.int p.2)) = _
    rw [pu_new hne, mgD_go ps (acc ++ [(p.1, p.2)]) (by rw [List.append_assoc]; exact h), List.append_assoc]; rfl
theorem mgD_dD {ps : List Pt} (h : Nd ps) : mgD (dD ps) = dD ps := mgD_go ps [] h
/-- the first parts as the law's comprehension tells them -/
theorem fp_range (cs : List Int) : ((((List.range cs.length).map fun (i : Nat) => D.int (0 + (i : Nat))).filter fun d => match d with | .int i => decide (0 < cs.getD i.toNat 0) | _ => false).map fun d => match d with | .int i => D.tup [.int i, .int (cs.getD i.toNat 0)] | d => d) = (fpF 0 cs).map tP := by
  have gen : ∀ (xs : List Int) (k : Nat), xs = cs.drop k → ((((List.range xs.length).map fun (i : Nat) => D.int (0 + ((k + i : Nat) : Int))).filter fun d => match d with | .int i => decide (0 < cs.getD i.toNat 0) | _ => false).map fun d => match d with | .int i => D.tup [.int i, .int (cs.getD i.toNat 0)] | d => d) = (fpF k xs).map tP := by
    intro xs
    induction xs with
    | nil => intro k _; rfl
    | cons x xs ih =>
      intro k hk
      have hx : cs.getD k 0 = x := by
        rw [List.getD_eq_getElem?_getD]
        have : (cs.drop k)[0]? = some x := by rw [← hk]; rfl
        rw [List.getElem?_drop, Nat.add_zero] at this
        rw [this]; rfl
      have hxs : xs = cs.drop (k + 1) := by
        have := congrArg List.tail hk
        rw [List.tail_drop] at this
        exact this
      have ih' := ih (k + 1) hxs
      rw [List.length_cons, List.range_succ_eq_map, List.map_cons, List.map_map, List.filter_cons]
      have e0 : (0 + ((k + 0 : Nat) : Int)).toNat = k := by omega
      have et : ((List.range xs.length).map ((fun (i : Nat) => D.int (0 + ((k + i : Nat) : Int))) ∘ Nat.succ)) = (List.range xs.length).map fun (i : Nat) => D.int (0 + ((k + 1 + i : Nat) : Int)) := by
        refine List.map_congr_left fun i _ => ?_
        show D.int (0 + ((k + (i + 1) : Nat) : Int)) = D.int (0 + ((k + 1 + i : Nat) : Int))
        rw [show k + (i + 1) = k + 1 + i by omega]
      rw [et]
      show (if decide (0 < cs.getD (0 + ((k + 0 : Nat) : Int)).toNat 0) = true then _ else _ : List D).map _ = _
      rw [e0, hx]
      unfold fpF
      by_cases h : 0 < x
      · rw [if_pos (decide_eq_true h), if_pos h, List.map_cons, List.map_cons, ih']
        show D.tup [.int (0 + ((k + 0 : Nat) : Int)), .int (cs.getD (0 + ((k + 0 : Nat) : Int)).toNat 0)] :: _ = _
        rw [e0, hx, show (0 + ((k + 0 : Nat) : Int)) = (k : Int) by omega]
        rfl
      · rw [if_neg (fun q => h (of_decide_eq_true q)), if_neg h, ih']
        rfl
  have := gen cs 0 (by simp)
  simpa using this

/-! ### papers, any -/
def wt (ps : List Pt) (k : Int) : Int := (vlP ps k).getD 0
def stepP (n : Int) (ps : List Pt) (q : Pt) : List Pt := drP (drP ps q.1) q.2 ++ [(n, wt ps q.1 + wt ps q.2)]
structure OkS (ps : List Pt) (q : Pt) : Prop where
  ne : q.1 ≠ q.2
  m1 : (q.1, wt ps q.1) ∈ ps
  m2 : (q.2, wt ps q.2) ∈ ps
  le : ∀ r ∈ drP (drP ps q.1) q.2, wt ps q.1 ≤ r.2 ∧ wt ps q.2 ≤ r.2
def stP (n : Int) (ps qs : List Pt) : Nat → List Pt
  | 0 => ps
  | k + 1 => stepP (n + k) (stP n ps qs k) (qs.getD k (0, 0))
def Gd (n : Int) (ps qs : List Pt) : Prop := ∀ k, k < qs.length → OkS (stP n ps qs k) (qs.getD k (0, 0))
def btP (n : Int) (ps qs : List Pt) : Nat → Int
  | 0 => 0
  | k + 1 => btP n ps qs k + (wt (stP n ps qs k) (qs.getD k (0, 0)).1 + wt (stP n ps qs k) (qs.getD k (0, 0)).2)
theorem wt_mem {ps : List Pt} {p : Pt} (hn : Nd ps) (h : p ∈ ps) : wt ps p.1 = p.2 := by unfold wt; rw [vlP_mem hn h]; rfl
theorem OkS.in1 {ps : List Pt} {q : Pt} (h : OkS ps q) : (q.2, wt ps q.2) ∈ drP ps q.1 := drP_mem.mpr ⟨h.m2, fun z => h.ne z.symm⟩
theorem OkS.len {ps : List Pt} {q : Pt} (h : OkS ps q) (hn : Nd ps) : (drP (drP ps q.1) q.2).length + 2 = ps.length := by
  have h1 : (drP ps q.1).length + 1 = ps.length := drP_len (p := (q.1, wt ps q.1)) hn h.m1
  have h2 : (drP (drP ps q.1) q.2).length + 1 = (drP ps q.1).length := drP_len (p := (q.2, wt ps q.2)) (drP_nd hn) h.in1
  omega
theorem Pk.step {n : Int} {k : Nat} {ps : List Pt} {q : Pt} (h : Pk n k ps) (hs : OkS ps q) : Pk n (k + 1) (stepP (n + k) ps q) ∧ (stepP (n + k) ps q).length + 1 = ps.length := by
  have hr : ∀ p ∈ drP (drP ps q.1) q.2, p ∈ ps := fun p hp => (drP_mem.mp (drP_mem.mp hp).1).1
  have w1 : 0 ≤ wt ps q.1 := h.ge _ hs.m1
  have w2 : 0 ≤ wt ps q.2 := h.ge _ hs.m2
  refine ⟨⟨?_, fun p hp => ?_, fun p hp => ?_⟩, ?_⟩
  · show ((drP (drP ps q.1) q.2 ++ [(n + k, _)]).map Prod.fst).Nodup
    rw [List.map_append, List.nodup_append]
    refine ⟨drP_nd (drP_nd h.nd), by simp, fun a ha b hb => ?_⟩
    obtain ⟨p, hp, rfl⟩ := List.mem_map.mp ha
    simp at hb
    subst hb
    have := h.lt p (hr p hp)
    omega
  · rcases List.mem_append.mp hp with hp | hp
    · have := h.lt p (hr p hp); push_cast; omega
    · simp at hp; subst hp; show n + k < n + ((k + 1 : Nat) : Int); push_cast; omega
  · rcases List.mem_append.mp hp with hp | hp
    · exact h.ge p (hr p hp)
    · simp at hp; subst hp; show 0 ≤ wt ps q.1 + wt ps q.2; omega
  · unfold stepP; rw [List.length_append]; have := hs.len h.nd; show _ + 1 + 1 = _; omega
theorem stP_ok {n : Int} {ps qs : List Pt} (h : Pk n 0 ps) (hg : Gd n ps qs) : ∀ k, k ≤ qs.length → Pk n k (stP n ps qs k) ∧ (stP n ps qs k).length + k = ps.length
  | 0, _ => ⟨h, rfl⟩
  | k + 1, hk => by
    obtain ⟨h1, h2⟩ := stP_ok h hg k (by omega)
    obtain ⟨h3, h4⟩ := h1.step (hg k (by omega))
    exact ⟨h3, by show (stepP _ _ _).length + (k + 1) = _; omega⟩
theorem stP_app {n : Int} {ps qs rs : List Pt} : ∀ k, k ≤ qs.length → stP n ps (qs ++ rs) k = stP n ps qs k
  | 0, _ => rfl
  | k + 1, hk => by
    show stepP _ (stP n ps (qs ++ rs) k) _ = stepP _ (stP n ps qs k) _
    rw [stP_app k (by omega), List.getD_eq_getElem?_getD, List.getD_eq_getElem?_getD, List.getElem?_append_left (by omega)]
theorem btP_app {n : Int} {ps qs rs : List Pt} : ∀ k, k ≤ qs.length → btP n ps (qs ++ rs) k = btP n ps qs k
  | 0, _ => rfl
  | k + 1, hk => by
    show btP n ps (qs ++ rs) k + _ = btP n ps qs k + _
    rw [btP_app k (by omega), stP_app k (by omega), List.getD_eq_getElem?_getD, List.getD_eq_getElem?_getD, List.getElem?_append_left (by omega)]
theorem getD_last (qs : List Pt) (q d : Pt) : (qs ++ [q]).getD qs.length d = q := by
  rw [List.getD_eq_getElem?_getD, List.getElem?_append_right (Nat.le_refl _), Nat.sub_self]; rfl
theorem Gd.snoc {n : Int} {ps qs : List Pt} {q : Pt} (h : Gd n ps qs) (hq : OkS (stP n ps qs qs.length) q) : Gd n ps (qs ++ [q]) := fun k hk => by
  rw [List.length_append] at hk
  have hk : k < qs.length + 1 := hk
  by_cases h1 : k < qs.length
  · rw [stP_app k (by omega), List.getD_eq_getElem?_getD, List.getElem?_append_left h1, ← List.getD_eq_getElem?_getD]; exact h k h1
  · have : k = qs.length := by omega
    subst this
    rw [stP_app _ (Nat.le_refl _), getD_last]; exact hq
theorem Gd.take {n : Int} {ps qs : List Pt} (h : Gd n ps qs) (j : Nat) : Gd n ps (qs.take j) ∧ (∀ k, k ≤ j → k ≤ qs.length → stP n ps (qs.take j) k = stP n ps qs k) := by
  have e : ∀ k, k ≤ j → k ≤ qs.length → stP n ps (qs.take j) k = stP n ps qs k := fun k hk hl => by
    conv => rhs; rw [← List.take_append_drop j qs]
    rw [stP_app]; rw [List.length_take]; omega
  refine ⟨fun k hk => ?_, e⟩
  rw [List.length_take] at hk
  rw [e k (by omega) (by omega), List.getD_eq_getElem?_getD, List.getElem?_take, if_pos (by omega), ← List.getD_eq_getElem?_getD]
  exact h k (by omega)
theorem drP_perm : ∀ {ps : List Pt} {p : Pt}, Nd ps → p ∈ ps → ps.Perm (p :: drP ps p.1)
  | q :: ps, p, hn, hp => by
    have hn : (q.1 :: ps.map Prod.fst).Nodup := hn
    obtain ⟨h1, h2⟩ := List.nodup_cons.mp hn
    rcases List.mem_cons.mp hp with rfl | hp
    · unfold drP
      rw [List.filter_cons, if_neg (by simp), List.filter_eq_self.mpr (fun x hx => decide_eq_true (fun (z : x.1 = _) => h1 (by have := List.mem_map_of_mem (f := Prod.fst) hx; rw [z] at this; exact this)))]
    · have hne : q.1 ≠ p.1 := fun z => h1 (z ▸ List.mem_map_of_mem hp)
      have e : drP (q :: ps) p.1 = q :: drP ps p.1 := by unfold drP; rw [List.filter_cons, if_pos (decide_eq_true hne)]
      rw [e]
      exact ((drP_perm h2 hp).cons q).trans (.swap ..)
/-- two that weigh least, of whatever order -/
theorem least_two {ps : List Pt} {a b : Pt} {w0 w1 : Int} {W : List Int} (hn : Nd ps) (hW : (w0 :: w1 :: W).Perm (ps.map Prod.snd)) (hs : (w0 :: w1 :: W).Pairwise (· ≤ ·)) (ha : a ∈ ps) (ea : a.2 = w0) : (∀ p ∈ drP ps a.1, w1 ≤ p.2) ∧ ∃ p ∈ drP ps a.1, p.2 = w1 := by
  have h1 := (drP_perm hn ha).map Prod.snd
  have h2 : (w0 :: w1 :: W).Perm (a.2 :: (drP ps a.1).map Prod.snd) := hW.trans h1
  rw [ea] at h2
  have h3 := h2.cons_inv
  obtain ⟨_, hs2⟩ := List.pairwise_cons.mp hs
  obtain ⟨hs3, _⟩ := List.pairwise_cons.mp hs2
  refine ⟨fun p hp => ?_, ?_⟩
  · have : p.2 ∈ w1 :: W := h3.mem_iff.mpr (List.mem_map_of_mem hp)
    rcases List.mem_cons.mp this with e | hm
    · omega
    · exact hs3 _ hm
  · have : w1 ∈ (drP ps a.1).map Prod.snd := h3.mem_iff.mp (List.mem_cons_self ..)
    obtain ⟨p, hp, e⟩ := List.mem_map.mp this
    exact ⟨p, hp, e⟩
theorem okS_of {ps : List Pt} {a b : Pt} {w1 : Int} (hn : Nd ps) (ha : a ∈ ps) (hb : b ∈ ps) (hne : a.1 ≠ b.1) (hle : a.2 ≤ w1) (hbe : b.2 ≤ w1) (hr : ∀ p ∈ drP ps a.1, w1 ≤ p.2) : OkS ps (a.1, b.1) := by
  have e1 := wt_mem hn ha
  have e2 := wt_mem hn hb
  refine ⟨hne, by show (a.1, wt ps a.1) ∈ ps; rw [e1]; exact ha, by show (b.1, wt ps b.1) ∈ ps; rw [e2]; exact hb, fun r hrm => ?_⟩
  have := hr r (drP_mem.mp hrm).1
  show wt ps a.1 ≤ r.2 ∧ wt ps b.1 ≤ r.2
  rw [e1, e2]; omega
theorem drP_comm (ps : List Pt) (a b : Int) : drP (drP ps a) b = drP (drP ps b) a := by
  unfold drP; rw [List.filter_filter, List.filter_filter]
  refine List.filter_congr fun p _ => ?_
  rw [Bool.and_comm]
theorem OkS.swap {ps : List Pt} {a b : Int} (h : OkS ps (a, b)) : OkS ps (b, a) := ⟨fun z => h.ne z.symm, h.m2, h.m1, fun r hr => by
  have := h.le r (by show r ∈ drP (drP ps a) b; rw [drP_comm]; exact hr)
  exact ⟨this.2, this.1⟩⟩
/-- how deep, by the pairs from i on -/
def fD (n : Int) (qs : List Pt) : Nat → Nat → Int → Option Int
  | _, 0 => fun _ => none
  | i, m + 1 => fun k => if k = (qs.getD i (0, 0)).1 ∨ k = (qs.getD i (0, 0)).2 then some ((fD n qs (i + 1) m (n + i)).getD 0 + 1) else fD n qs (i + 1) m k
def lenBy (n : Int) (cs : List Int) (qs : List Pt) : List Int :=
  if qs = [] then cs.map fun c => if 0 < c then 1 else 0 else (List.range cs.length).map fun (s : Nat) => (fD n qs 0 qs.length (s : Int)).getD 0
structure Pap (cs : List Int) (qs : List Pt) (b : Int) : Prop where
  gd : Gd (cs.length : Int) (fpF 0 cs) qs
  len : qs.length = (fpF 0 cs).length - 1
  bits : b = if qs = [] then cs.sum else btP (cs.length : Int) (fpF 0 cs) qs qs.length
theorem stP_nn {n : Int} (hn : 0 ≤ n) {ps qs : List Pt} (h : ∀ p ∈ ps, 0 ≤ p.1) : ∀ k, ∀ p ∈ stP n ps qs k, 0 ≤ p.1
  | 0, p, hp => h p hp
  | k + 1, p, hp => by
    rcases List.mem_append.mp hp with hp | hp
    · exact stP_nn hn h k p (drP_mem.mp (drP_mem.mp hp).1).1
    · rw [List.mem_singleton.mp hp]; show 0 ≤ n + (k : Int); omega

/-! ### how deep, and what it comes to -/
def dpt (n : Int) (qs : List Pt) (k : Nat) (x : Int) : Int := (fD n qs k (qs.length - k) x).getD 0
theorem dp_end (n : Int) (qs : List Pt) (x : Int) : dpt n qs qs.length x = 0 := by unfold dpt; rw [Nat.sub_self]; rfl
theorem dp_step {n : Int} {qs : List Pt} {k : Nat} (h : k < qs.length) (x : Int) : dpt n qs k x = if x = (qs.getD k (0, 0)).1 ∨ x = (qs.getD k (0, 0)).2 then dpt n qs (k + 1) (n + k) + 1 else dpt n qs (k + 1) x := by
  unfold dpt
  rw [show qs.length - k = (qs.length - (k + 1)) + 1 by omega]
  show (if x = (qs.getD k (0, 0)).1 ∨ x = (qs.getD k (0, 0)).2 then some ((fD n qs (k + 1) (qs.length - (k + 1)) (n + k)).getD 0 + 1) else fD n qs (k + 1) (qs.length - (k + 1)) x).getD 0 = _
  split <;> rfl
theorem dp_nn (n : Int) (qs : List Pt) : ∀ (j k : Nat), k + j = qs.length → ∀ x, 0 ≤ dpt n qs k x
  | 0, k, h, x => by rw [show k = qs.length by omega, dp_end]; exact Int.le_refl _
  | j + 1, k, h, x => by
    rw [dp_step (by omega)]
    have h1 := dp_nn n qs j (k + 1) (by omega) (n + k)
    have h2 := dp_nn n qs j (k + 1) (by omega) x
    split <;> omega
theorem st_perm {ps : List Pt} {q : Pt} (hn : Nd ps) (hs : OkS ps q) : ps.Perm ((q.1, wt ps q.1) :: (q.2, wt ps q.2) :: drP (drP ps q.1) q.2) := by
  refine (drP_perm hn hs.m1).trans (.cons _ ?_)
  exact drP_perm (p := (q.2, wt ps q.2)) (drP_nd hn) hs.in1
theorem sum_perm {l m : List Int} (h : l.Perm m) : l.sum = m.sum := by
  induction h with
  | nil => rfl
  | cons x _ ih => rw [List.sum_cons, List.sum_cons, ih]
  | swap x y l => rw [List.sum_cons, List.sum_cons, List.sum_cons, List.sum_cons]; omega
  | trans _ _ h1 h2 => exact h1.trans h2
section
variable {n : Int} {ps qs : List Pt} (hpk : Pk n 0 ps) (hg : Gd n ps qs)
include hpk hg
theorem st_next {k : Nat} (h : k < qs.length) : stP n ps qs (k + 1) = drP (drP (stP n ps qs k) (qs.getD k (0, 0)).1) (qs.getD k (0, 0)).2 ++ [(n + k, wt (stP n ps qs k) (qs.getD k (0, 0)).1 + wt (stP n ps qs k) (qs.getD k (0, 0)).2)] := rfl
/-- a sum over the parts, from turn to turn -/
theorem tele {k : Nat} (h : k < qs.length) (f g : Int → Int) (hg1 : g (n + k) = f (qs.getD k (0, 0)).1 + f (qs.getD k (0, 0)).2) (hg2 : ∀ p ∈ drP (drP (stP n ps qs k) (qs.getD k (0, 0)).1) (qs.getD k (0, 0)).2, g p.1 = f p.1) :
    ((stP n ps qs k).map fun p => f p.1 * dpt n qs k p.1).sum = ((stP n ps qs (k + 1)).map fun p => g p.1 * dpt n qs (k + 1) p.1).sum + (f (qs.getD k (0, 0)).1 + f (qs.getD k (0, 0)).2) := by
  obtain ⟨hP, _⟩ := stP_ok hpk hg k (by omega)
  have hs := hg k h
  rw [st_next hpk hg h, sum_perm ((st_perm hP.nd hs).map _), List.map_append, List.sum_append, List.map_cons, List.map_cons, List.sum_cons, List.sum_cons]
  have e1 : dpt n qs k (qs.getD k (0, 0)).1 = dpt n qs (k + 1) (n + k) + 1 := by rw [dp_step h, if_pos (.inl rfl)]
  have e2 : dpt n qs k (qs.getD k (0, 0)).2 = dpt n qs (k + 1) (n + k) + 1 := by rw [dp_step h, if_pos (.inr rfl)]
  have e3 : ((drP (drP (stP n ps qs k) (qs.getD k (0, 0)).1) (qs.getD k (0, 0)).2).map fun p => f p.1 * dpt n qs k p.1) = ((drP (drP (stP n ps qs k) (qs.getD k (0, 0)).1) (qs.getD k (0, 0)).2).map fun p => g p.1 * dpt n qs (k + 1) p.1) := by
    refine List.map_congr_left fun p hp => ?_
    obtain ⟨h1, h2⟩ := drP_mem.mp hp
    obtain ⟨_, h3⟩ := drP_mem.mp h1
    rw [hg2 p hp, dp_step h, if_neg (by rintro (z | z); exact h3 z; exact h2 z)]
  rw [e3]
  show f (qs.getD k (0, 0)).1 * dpt n qs k (qs.getD k (0, 0)).1 + (f (qs.getD k (0, 0)).2 * dpt n qs k (qs.getD k (0, 0)).2 + _) = _ + (g (n + k) * dpt n qs (k + 1) (n + k) + 0) + _
  rw [e1, e2, hg1]
  generalize dpt n qs (k + 1) (n + k) = d
  generalize f (qs.getD k (0, 0)).1 = x
  generalize f (qs.getD k (0, 0)).2 = y
  generalize ((drP (drP (stP n ps qs k) (qs.getD k (0, 0)).1) (qs.getD k (0, 0)).2).map fun p => g p.1 * dpt n qs (k + 1) p.1).sum = z
  rw [Int.mul_add, Int.mul_add, Int.add_mul]; omega
theorem wt_next {k : Nat} (h : k < qs.length) : wt (stP n ps qs (k + 1)) (n + k) = wt (stP n ps qs k) (qs.getD k (0, 0)).1 + wt (stP n ps qs k) (qs.getD k (0, 0)).2 ∧ ∀ p ∈ drP (drP (stP n ps qs k) (qs.getD k (0, 0)).1) (qs.getD k (0, 0)).2, wt (stP n ps qs (k + 1)) p.1 = wt (stP n ps qs k) p.1 := by
  obtain ⟨hP, _⟩ := stP_ok hpk hg k (by omega)
  obtain ⟨hP', _⟩ := stP_ok hpk hg (k + 1) (by omega)
  refine ⟨wt_mem (p := (n + (k : Int), _)) hP'.nd (by rw [st_next hpk hg h]; exact List.mem_append_right _ (List.mem_singleton.mpr rfl)), fun p hp => ?_⟩
  rw [wt_mem hP'.nd (show p ∈ stP n ps qs (k + 1) by rw [st_next hpk hg h]; exact List.mem_append_left _ hp), wt_mem hP.nd (drP_mem.mp (drP_mem.mp hp).1).1]
theorem sumW : ∀ (j k : Nat), k + j = qs.length → ((stP n ps qs k).map fun p => wt (stP n ps qs k) p.1 * dpt n qs k p.1).sum = btP n ps qs qs.length - btP n ps qs k
  | 0, k, h => by
    have : k = qs.length := by omega
    subst this
    have : ((stP n ps qs qs.length).map fun p => wt (stP n ps qs qs.length) p.1 * dpt n qs qs.length p.1).sum = 0 := by
      rw [show ((stP n ps qs qs.length).map fun p => wt (stP n ps qs qs.length) p.1 * dpt n qs qs.length p.1) = (stP n ps qs qs.length).map fun _ => 0 from List.map_congr_left fun p _ => by rw [dp_end, Int.mul_zero]]
      induction stP n ps qs qs.length with
      | nil => rfl
      | cons _ _ ih => rw [List.map_cons, List.sum_cons, ih]; rfl
    omega
  | j + 1, k, h => by
    have hk : k < qs.length := by omega
    obtain ⟨w1, w2⟩ := wt_next hpk hg hk
    rw [tele hpk hg hk (wt (stP n ps qs k)) (wt (stP n ps qs (k + 1))) w1 w2, sumW j (k + 1) (by omega)]
    show _ - (btP n ps qs k + (_ + _)) + _ = _
    omega
/-- the bits are the sum of weights by depths -/
theorem bits_sum : (ps.map fun p => p.2 * dpt n qs 0 p.1).sum = btP n ps qs qs.length := by
  have := sumW hpk hg qs.length 0 (by omega)
  rw [show btP n ps qs 0 = 0 from rfl, Int.sub_zero] at this
  rw [← this]
  congr 1
  exact List.map_congr_left fun p hp => by rw [show stP n ps qs 0 = ps from rfl, wt_mem hpk.nd hp]
/-- all the weights together stay -/
theorem sum_st : ∀ k, k ≤ qs.length → ((stP n ps qs k).map Prod.snd).sum = (ps.map Prod.snd).sum
  | 0, _ => rfl
  | k + 1, h => by
    obtain ⟨hP, _⟩ := stP_ok hpk hg k (by omega)
    rw [← sum_st k (by omega), sum_perm ((st_perm hP.nd (hg k (by omega))).map Prod.snd), st_next hpk hg (by omega), List.map_append, List.sum_append, List.map_cons, List.map_cons, List.sum_cons, List.sum_cons]
    simp only [List.map_cons, List.map_nil, List.sum_cons, List.sum_nil]
    omega
/-! how high -/
end
def fib : Nat → Int
  | 0 => 0
  | 1 => 1
  | n + 2 => fib (n + 1) + fib n
theorem fib_nn : ∀ n, 0 ≤ fib n ∧ 0 ≤ fib (n + 1)
  | 0 => ⟨by decide, by decide⟩
  | n + 1 => by
    obtain ⟨h1, h2⟩ := fib_nn n
    refine ⟨h2, ?_⟩
    show 0 ≤ fib (n + 1) + fib n
    omega
theorem fib_mono1 : ∀ n, fib (n + 1) ≤ fib (n + 2) := fun n => by
  have := (fib_nn n).1
  show fib (n + 1) ≤ fib (n + 1) + fib n
  omega
theorem fib_mono {a b : Nat} (h : a ≤ b) : fib (a + 1) ≤ fib (b + 1) := by
  induction b with
  | zero => rw [show a = 0 by omega]; exact Int.le_refl _
  | succ b ih =>
    by_cases q : a ≤ b
    · exact Int.le_trans (ih q) (fib_mono1 b)
    · rw [show a = b + 1 by omega]; exact Int.le_refl _
/-- how high a part is -/
def hgt (n : Int) (qs : List Pt) : Nat → Int → Nat
  | 0, _ => 0
  | k + 1, x => if x = n + k then 1 + max (hgt n qs k (qs.getD k (0, 0)).1) (hgt n qs k (qs.getD k (0, 0)).2) else hgt n qs k x
section
variable {n : Int} {ps qs : List Pt} (hpk : Pk n 0 ps) (hg : Gd n ps qs)
include hpk hg
theorem hgt_rest {k : Nat} (h : k < qs.length) {p : Pt} (hp : p ∈ stP n ps qs k) : hgt n qs (k + 1) p.1 = hgt n qs k p.1 := by
  obtain ⟨hP, _⟩ := stP_ok hpk hg k (by omega)
  have := hP.lt p hp
  show (if p.1 = n + k then _ else _) = _
  rw [if_neg (by omega)]
theorem hgt_new {k : Nat} : hgt n qs (k + 1) (n + k) = 1 + max (hgt n qs k (qs.getD k (0, 0)).1) (hgt n qs k (qs.getD k (0, 0)).2) := by
  show (if n + (k : Int) = n + k then _ else _) = _
  rw [if_pos rfl]
theorem fibs (hw : ∀ p ∈ ps, 1 ≤ p.2) : ∀ k, k ≤ qs.length → ∀ p ∈ stP n ps qs k, fib (hgt n qs k p.1 + 2) ≤ p.2 ∧ ∀ r ∈ stP n ps qs k, r.1 ≠ p.1 → fib (hgt n qs k p.1 + 1) ≤ r.2
  | 0, _, p, hp => ⟨hw p hp, fun r hr _ => hw r hr⟩
  | k + 1, h, p, hp => by
    have ih := fibs hw k (by omega)
    obtain ⟨hP, _⟩ := stP_ok hpk hg k (by omega)
    have hs := hg k (by omega)
    have hi : ∀ r ∈ drP (drP (stP n ps qs k) (qs.getD k (0, 0)).1) (qs.getD k (0, 0)).2, r ∈ stP n ps qs k := fun r hr => (drP_mem.mp (drP_mem.mp hr).1).1
    have hlt : ∀ r ∈ stP n ps qs k, r.1 < n + k := hP.lt
    have hrest : ∀ r ∈ stP n ps qs k, hgt n qs (k + 1) r.1 = hgt n qs k r.1 := fun r hr => hgt_rest hpk hg (by omega) hr
    have hnew := hgt_new (k := k) hpk hg
    have ia : fib (hgt n qs k (qs.getD k (0, 0)).1 + 2) ≤ wt (stP n ps qs k) (qs.getD k (0, 0)).1 := (ih _ hs.m1).1
    have ja : fib (hgt n qs k (qs.getD k (0, 0)).2 + 2) ≤ wt (stP n ps qs k) (qs.getD k (0, 0)).2 := (ih _ hs.m2).1
    have iab : fib (hgt n qs k (qs.getD k (0, 0)).1 + 1) ≤ wt (stP n ps qs k) (qs.getD k (0, 0)).2 := (ih _ hs.m1).2 _ hs.m2 (fun z => hs.ne z.symm)
    have jab : fib (hgt n qs k (qs.getD k (0, 0)).2 + 1) ≤ wt (stP n ps qs k) (qs.getD k (0, 0)).1 := (ih _ hs.m2).2 _ hs.m1 hs.ne
    have hle := hs.le
    rw [st_next hpk hg (by omega)] at hp
    have hmem : ∀ r ∈ stP n ps qs (k + 1), r ∈ drP (drP (stP n ps qs k) (qs.getD k (0, 0)).1) (qs.getD k (0, 0)).2 ∨ r = (n + (k : Int), wt (stP n ps qs k) (qs.getD k (0, 0)).1 + wt (stP n ps qs k) (qs.getD k (0, 0)).2) := fun r hr => by
      rw [st_next hpk hg (by omega)] at hr
      rcases List.mem_append.mp hr with hr | hr
      · exact .inl hr
      · exact .inr (List.mem_singleton.mp hr)
    have f1 : fib (hgt n qs k (qs.getD k (0, 0)).1 + 3) = fib (hgt n qs k (qs.getD k (0, 0)).1 + 2) + fib (hgt n qs k (qs.getD k (0, 0)).1 + 1) := rfl
    have f2 : fib (hgt n qs k (qs.getD k (0, 0)).2 + 3) = fib (hgt n qs k (qs.getD k (0, 0)).2 + 2) + fib (hgt n qs k (qs.getD k (0, 0)).2 + 1) := rfl
    rcases List.mem_append.mp hp with hp | hp
    · rw [hrest p (hi p hp)]
      obtain ⟨h1, h2⟩ := ih p (hi p hp)
      refine ⟨h1, fun r hr hne => ?_⟩
      rcases hmem r hr with hr | rfl
      · exact h2 r (hi r hr) hne
      · have h3 : fib (hgt n qs k p.1 + 1) ≤ wt (stP n ps qs k) (qs.getD k (0, 0)).1 := h2 _ hs.m1 (fun z => (drP_mem.mp (drP_mem.mp hp).1).2 z.symm)
        have h5 := (fib_nn (hgt n qs k (qs.getD k (0, 0)).2 + 2)).1
        show _ ≤ wt (stP n ps qs k) (qs.getD k (0, 0)).1 + wt (stP n ps qs k) (qs.getD k (0, 0)).2
        omega
    · rw [List.mem_singleton.mp hp]
      show fib (hgt n qs (k + 1) (n + k) + 2) ≤ wt (stP n ps qs k) (qs.getD k (0, 0)).1 + wt (stP n ps qs k) (qs.getD k (0, 0)).2 ∧ ∀ r ∈ stP n ps qs (k + 1), r.1 ≠ n + k → fib (hgt n qs (k + 1) (n + k) + 1) ≤ r.2
      rw [hnew]
      by_cases hc : hgt n qs k (qs.getD k (0, 0)).2 ≤ hgt n qs k (qs.getD k (0, 0)).1
      · rw [Nat.max_eq_left hc, show 1 + hgt n qs k (qs.getD k (0, 0)).1 + 2 = hgt n qs k (qs.getD k (0, 0)).1 + 3 by omega, show 1 + hgt n qs k (qs.getD k (0, 0)).1 + 1 = hgt n qs k (qs.getD k (0, 0)).1 + 2 by omega]
        refine ⟨by omega, fun r hr hne => ?_⟩
        rcases hmem r hr with hr | rfl
        · have := hle r hr; omega
        · exact absurd rfl hne
      · rw [Nat.max_eq_right (by omega), show 1 + hgt n qs k (qs.getD k (0, 0)).2 + 2 = hgt n qs k (qs.getD k (0, 0)).2 + 3 by omega, show 1 + hgt n qs k (qs.getD k (0, 0)).2 + 1 = hgt n qs k (qs.getD k (0, 0)).2 + 2 by omega]
        refine ⟨by omega, fun r hr hne => ?_⟩
        rcases hmem r hr with hr | rfl
        · have := hle r hr; omega
        · exact absurd rfl hne
theorem dp_hgt (B : Nat) (hB : ∀ p ∈ stP n ps qs qs.length, hgt n qs qs.length p.1 ≤ B) : ∀ (j k : Nat), k + j = qs.length → ∀ p ∈ stP n ps qs k, dpt n qs k p.1 + hgt n qs k p.1 ≤ B
  | 0, k, h, p, hp => by
    have : k = qs.length := by omega
    subst this
    rw [dp_end]
    have := hB p hp
    omega
  | j + 1, k, h, p, hp => by
    have hk : k < qs.length := by omega
    have ih := dp_hgt B hB j (k + 1) (by omega)
    have hnew := hgt_new (k := k) hpk hg
    have hn := ih (n + k, _) (by rw [st_next hpk hg hk]; exact List.mem_append_right _ (List.mem_singleton.mpr rfl))
    have hn : dpt n qs (k + 1) (n + k) + hgt n qs (k + 1) (n + k) ≤ B := hn
    rw [hnew] at hn
    rw [dp_step hk]
    by_cases h1 : p.1 = (qs.getD k (0, 0)).1
    · rw [if_pos (.inl h1), h1]; omega
    · by_cases h2 : p.1 = (qs.getD k (0, 0)).2
      · rw [if_pos (.inr h2), h2]; omega
      · rw [if_neg (by rintro (z | z); exact h1 z; exact h2 z)]
        have := ih p (by rw [st_next hpk hg hk]; exact List.mem_append_left _ (drP_mem.mpr ⟨drP_mem.mpr ⟨hp, h1⟩, h2⟩))
        rw [hgt_rest hpk hg hk hp] at this
        exact this
/-- no depth above 14 -/
theorem hgt_14 (hw : ∀ p ∈ ps, 1 ≤ p.2) (hsum : (ps.map Prod.snd).sum ≤ 1000) : ∀ p ∈ stP n ps qs qs.length, hgt n qs qs.length p.1 ≤ 14 := fun r hr => by
    have h1 := (fibs hpk hg hw qs.length (Nat.le_refl _) r hr).1
    have h2 := sum_st hpk hg qs.length (Nat.le_refl _)
    obtain ⟨hP, _⟩ := stP_ok hpk hg qs.length (Nat.le_refl _)
    have h3 : r.2 ≤ ((stP n ps qs qs.length).map Prod.snd).sum := by
      have hge : ∀ x ∈ (stP n ps qs qs.length).map Prod.snd, 0 ≤ x := fun x hx => by
        obtain ⟨y, hy, rfl⟩ := List.mem_map.mp hx
        exact hP.ge y hy
      have hm : r.2 ∈ (stP n ps qs qs.length).map Prod.snd := List.mem_map_of_mem hr
      generalize (stP n ps qs qs.length).map Prod.snd = l at hge hm
      induction l with
      | nil => cases hm
      | cons x l ih =>
        rw [List.sum_cons]
        have hx := hge x (List.mem_cons_self ..)
        have hs : 0 ≤ l.sum := by
          clear ih hm
          induction l with
          | nil => exact Int.le_refl _
          | cons y l ih =>
            rw [List.sum_cons]
            have h1 := hge y (List.mem_cons_of_mem _ (List.mem_cons_self ..))
            have h2 := ih fun z hz => by
              rcases List.mem_cons.mp hz with rfl | hz
              · exact hx
              · exact hge z (List.mem_cons_of_mem _ (List.mem_cons_of_mem _ hz))
            omega
        rcases List.mem_cons.mp hm with e | hm
        · omega
        · have := ih (fun z hz => hge z (List.mem_cons_of_mem _ hz)) hm
          omega
    by_cases hc : hgt n qs qs.length r.1 ≤ 14
    · exact hc
    · have h4 := fib_mono (a := 16) (b := hgt n qs qs.length r.1 + 1) (by omega)
      have h5 : fib (16 + 1) = 1597 := by decide +kernel
      have h6 : fib (hgt n qs qs.length r.1 + 1 + 1) = fib (hgt n qs qs.length r.1 + 2) := rfl
      omega
/-- the room that the words take -/
theorem kraft (hw : ∀ k, k ≤ qs.length → ∀ p ∈ stP n ps qs k, dpt n qs k p.1 ≤ 15) : ∀ (j k : Nat), k + j = qs.length → ((stP n ps qs k).map fun p => (2 : Int) ^ (15 - dpt n qs k p.1).toNat).sum = ((stP n ps qs qs.length).map fun _ => (2 : Int) ^ 15).sum
  | 0, k, h => by
    have : k = qs.length := by omega
    subst this
    congr 1
    exact List.map_congr_left fun p _ => by rw [dp_end]; rfl
  | j + 1, k, h => by
    have hk : k < qs.length := by omega
    have ih := kraft hw j (k + 1) (by omega)
    rw [← ih]
    obtain ⟨hP, _⟩ := stP_ok hpk hg k (by omega)
    have hs := hg k hk
    have hb := hw k (by omega) _ hs.m1
    have hnn := dp_nn n qs j (k + 1) (by omega) (n + k)
    rw [st_next hpk hg hk, sum_perm ((st_perm hP.nd hs).map _), List.map_append, List.sum_append, List.map_cons, List.map_cons, List.sum_cons, List.sum_cons]
    have e1 : dpt n qs k (qs.getD k (0, 0)).1 = dpt n qs (k + 1) (n + k) + 1 := by rw [dp_step hk, if_pos (.inl rfl)]
    have e2 : dpt n qs k (qs.getD k (0, 0)).2 = dpt n qs (k + 1) (n + k) + 1 := by rw [dp_step hk, if_pos (.inr rfl)]
    have e3 : ((drP (drP (stP n ps qs k) (qs.getD k (0, 0)).1) (qs.getD k (0, 0)).2).map fun p => (2 : Int) ^ (15 - dpt n qs k p.1).toNat) = ((drP (drP (stP n ps qs k) (qs.getD k (0, 0)).1) (qs.getD k (0, 0)).2).map fun p => (2 : Int) ^ (15 - dpt n qs (k + 1) p.1).toNat) := by
      refine List.map_congr_left fun p hp => ?_
      obtain ⟨h1, h2⟩ := drP_mem.mp hp
      obtain ⟨_, h3⟩ := drP_mem.mp h1
      rw [dp_step hk, if_neg (by rintro (z | z); exact h3 z; exact h2 z)]
    have hb : dpt n qs k (qs.getD k (0, 0)).1 ≤ 15 := hb
    rw [e1] at hb
    rw [e3]
    simp only [List.map_cons, List.map_nil, List.sum_cons, List.sum_nil]
    rw [e1, e2]
    have e4 : (15 - dpt n qs (k + 1) (n + k)).toNat = (15 - (dpt n qs (k + 1) (n + k) + 1)).toNat + 1 := by omega
    rw [e4, Int.pow_succ]
    omega
end

/-! ### any right paper comes to the same bits -/
theorem two_ord {a b a' b' : Int} {R R' : List Int} (h : (a :: b :: R).Perm (a' :: b' :: R')) (hR : ∀ r ∈ R, a ≤ r ∧ b ≤ r) (hR' : ∀ r ∈ R', a' ≤ r ∧ b' ≤ r) (hab : a ≤ b) (hab' : a' ≤ b') : a = a' ∧ b = b' ∧ R.Perm R' := by
  have e1 : a = a' := by
    have h1 : a ∈ a' :: b' :: R' := h.mem_iff.mp (List.mem_cons_self ..)
    have h2 : a' ∈ a :: b :: R := h.mem_iff.mpr (List.mem_cons_self ..)
    have k1 : a' ≤ a := by
      rcases List.mem_cons.mp h1 with e | h1
      · omega
      · rcases List.mem_cons.mp h1 with e | h1
        · omega
        · exact (hR' a h1).1
    have k2 : a ≤ a' := by
      rcases List.mem_cons.mp h2 with e | h2
      · omega
      · rcases List.mem_cons.mp h2 with e | h2
        · omega
        · exact (hR a' h2).1
    omega
  subst e1
  have h := h.cons_inv
  have e2 : b = b' := by
    have h1 : b ∈ b' :: R' := h.mem_iff.mp (List.mem_cons_self ..)
    have h2 : b' ∈ b :: R := h.mem_iff.mpr (List.mem_cons_self ..)
    have k1 : b' ≤ b := by
      rcases List.mem_cons.mp h1 with e | h1
      · omega
      · exact (hR' b h1).2
    have k2 : b ≤ b' := by
      rcases List.mem_cons.mp h2 with e | h2
      · omega
      · exact (hR b' h2).2
    omega
  subst e2
  exact ⟨rfl, rfl, h.cons_inv⟩
theorem ord_perm (a b : Int) (R : List Int) : (min a b :: max a b :: R).Perm (a :: b :: R) := by
  by_cases h : a ≤ b
  · rw [show min a b = a by omega, show max a b = b by omega]
  · rw [show min a b = b by omega, show max a b = a by omega]; exact .swap ..
theorem two_least {a b a' b' : Int} {R R' : List Int} (h : (a :: b :: R).Perm (a' :: b' :: R')) (hR : ∀ r ∈ R, a ≤ r ∧ b ≤ r) (hR' : ∀ r ∈ R', a' ≤ r ∧ b' ≤ r) : a + b = a' + b' ∧ R.Perm R' := by
  obtain ⟨h1, h2, h3⟩ := two_ord ((ord_perm a b R).trans (h.trans (ord_perm a' b' R').symm)) (fun r hr => by have := hR r hr; omega) (fun r hr => by have := hR' r hr; omega) (by omega) (by omega)
  exact ⟨by omega, h3⟩
theorem same_step {ps ps' : List Pt} {q q' : Pt} {m m' : Int} (hn : Nd ps) (hn' : Nd ps') (hs : OkS ps q) (hs' : OkS ps' q') (h : (ps.map Prod.snd).Perm (ps'.map Prod.snd)) :
    wt ps q.1 + wt ps q.2 = wt ps' q'.1 + wt ps' q'.2 ∧ ((stepP m ps q).map Prod.snd).Perm ((stepP m' ps' q').map Prod.snd) := by
  have h1 := (st_perm hn hs).map Prod.snd
  have h2 := (st_perm hn' hs').map Prod.snd
  obtain ⟨e, hp⟩ := two_least (h1.symm.trans (h.trans h2)) (fun r hr => by
    obtain ⟨y, hy, rfl⟩ := List.mem_map.mp hr
    exact hs.le y hy) (fun r hr => by
    obtain ⟨y, hy, rfl⟩ := List.mem_map.mp hr
    exact hs'.le y hy)
  refine ⟨e, ?_⟩
  unfold stepP
  rw [List.map_append, List.map_append]
  refine hp.append ?_
  show [wt ps q.1 + wt ps q.2].Perm [wt ps' q'.1 + wt ps' q'.2]
  rw [e]
theorem same_bits {n n' : Int} {ps ps' qs qs' : List Pt} (hpk : Pk n 0 ps) (hpk' : Pk n' 0 ps') (hg : Gd n ps qs) (hg' : Gd n' ps' qs') (h : (ps.map Prod.snd).Perm (ps'.map Prod.snd)) : ∀ k, k ≤ qs.length → k ≤ qs'.length → btP n ps qs k = btP n' ps' qs' k ∧ ((stP n ps qs k).map Prod.snd).Perm ((stP n' ps' qs' k).map Prod.snd)
  | 0, _, _ => ⟨rfl, h⟩
  | k + 1, hk, hk' => by
    obtain ⟨e, hp⟩ := same_bits hpk hpk' hg hg' h k (by omega) (by omega)
    obtain ⟨h1, h2⟩ := same_step (m := n + k) (m' := n' + k) (stP_ok hpk hg k (by omega)).1.nd (stP_ok hpk' hg' k (by omega)).1.nd (hg k (by omega)) (hg' k (by omega)) hp
    refine ⟨?_, h2⟩
    show btP n ps qs k + _ = btP n' ps' qs' k + _
    rw [e, h1]
/-! ### the paper of the least ones is right -/
theorem paper_get {n : Int} {ps : List Pt} {k : Nat} (h : k < ps.length - 1) : (paper n ps).getD k (0, 0) = pairAt n ps k := by
  unfold paper
  rw [List.getD_eq_getElem?_getD, List.getElem?_map, List.getElem?_range h]; rfl
theorem paper_len (n : Int) (ps : List Pt) : (paper n ps).length = ps.length - 1 := by unfold paper; rw [List.length_map, List.length_range]
theorem paper_st {n : Int} {ps : List Pt} (hpk : Pk n 0 ps) : ∀ k, k ≤ ps.length - 1 → stP n ps (paper n ps) k = stF n ps k
  | 0, _ => rfl
  | k + 1, h => by
    obtain ⟨hP, hl⟩ := stF_ok hpk k (by omega)
    show stepP (n + k) (stP n ps (paper n ps) k) ((paper n ps).getD k (0, 0)) = nxt (n + k) (stF n ps k)
    rw [paper_st hpk k (by omega), paper_get (by omega)]
    have h1 := one_mem (ps := stF n ps k) (by omega)
    have h2 := oth_in hP.nd (by omega)
    show drP (drP (stF n ps k) (one (stF n ps k)).1) (oth (stF n ps k)).1 ++ [(n + (k : Int), wt (stF n ps k) (one (stF n ps k)).1 + wt (stF n ps k) (oth (stF n ps k)).1)] = rst (stF n ps k) ++ [(n + k, (one (stF n ps k)).2 + (oth (stF n ps k)).2)]
    rw [wt_mem hP.nd h1, wt_mem hP.nd h2]; rfl
theorem paper_gd {n : Int} {ps : List Pt} (hpk : Pk n 0 ps) : Gd n ps (paper n ps) := fun k hk => by
  rw [paper_len] at hk
  obtain ⟨hP, hl⟩ := stF_ok hpk k (by omega)
  rw [paper_st hpk k (by omega), paper_get hk]
  have h1 := one_mem (ps := stF n ps k) (by omega)
  have h2 := oth_in hP.nd (by omega)
  have e1 := wt_mem hP.nd h1
  have e2 := wt_mem hP.nd h2
  refine ⟨fun z => oth_ne hP.nd (by omega) z.symm, ?_, ?_, fun r hr => ?_⟩
  · show ((one (stF n ps k)).1, wt (stF n ps k) (one (stF n ps k)).1) ∈ _; rw [e1]; exact h1
  · show ((oth (stF n ps k)).1, wt (stF n ps k) (oth (stF n ps k)).1) ∈ _; rw [e2]; exact h2
  · have := rst_ge hP.nd (by omega) r hr
    show wt (stF n ps k) (one (stF n ps k)).1 ≤ r.2 ∧ wt (stF n ps k) (oth (stF n ps k)).1 ≤ r.2
    rw [e1, e2]; exact this
/-! ### what lies in a part -/
def insF (n : Int) (qs : List Pt) : Nat → Int → List Int
  | 0, x => [x]
  | k + 1, x => if x = n + k then insF n qs k (qs.getD k (0, 0)).1 ++ insF n qs k (qs.getD k (0, 0)).2 else insF n qs k x
def cntF (n : Int) (qs : List Pt) (s : Int) : Nat → Int
  | 0 => 0
  | k + 1 => cntF n qs s k + ((insF n qs k (qs.getD k (0, 0)).1 ++ insF n qs k (qs.getD k (0, 0)).2).count s : Nat)
theorem cnt_sum {n : Int} {ps qs : List Pt} (hpk : Pk n 0 ps) (hg : Gd n ps qs) (s : Int) : ∀ k, k ≤ qs.length → cntF n qs s k + ((stP n ps qs k).map fun p => ((insF n qs k p.1).count s : Int) * dpt n qs k p.1).sum = (ps.map fun p => (([p.1] : List Int).count s : Int) * dpt n qs 0 p.1).sum
  | 0, _ => by show (0 : Int) + _ = _; rw [Int.zero_add]; rfl
  | k + 1, h => by
    obtain ⟨hP, _⟩ := stP_ok hpk hg k (by omega)
    rw [← cnt_sum hpk hg s k (by omega), tele hpk hg (by omega) (fun x => ((insF n qs k x).count s : Int)) (fun x => ((insF n qs (k + 1) x).count s : Int)) ?_ ?_]
    · show cntF n qs s k + _ + _ = _
      rw [List.count_append]
      push_cast
      omega
    · show (((if n + (k : Int) = n + k then insF n qs k (qs.getD k (0, 0)).1 ++ insF n qs k (qs.getD k (0, 0)).2 else insF n qs k (n + k)).count s : Nat) : Int) = _
      rw [if_pos rfl, List.count_append]; push_cast; rfl
    · intro p hp
      have := hP.lt p (drP_mem.mp (drP_mem.mp hp).1).1
      show (((if p.1 = n + (k : Int) then _ else insF n qs k p.1).count s : Nat) : Int) = _
      rw [if_neg (by omega)]
theorem dp_out {n : Int} {ps qs : List Pt} (hpk : Pk n 0 ps) (hg : Gd n ps qs) : ∀ (j k : Nat), k + j = qs.length → ∀ x, x < n + k → (∀ p ∈ stP n ps qs k, p.1 ≠ x) → dpt n qs k x = 0
  | 0, k, h, x, _, _ => by rw [show k = qs.length by omega, dp_end]
  | j + 1, k, h, x, hx, ho => by
    have hk : k < qs.length := by omega
    have hs := hg k hk
    have h1 := ho _ hs.m1
    have h2 := ho _ hs.m2
    rw [dp_step hk, if_neg (by rintro (z | z); exact h1 z.symm; exact h2 z.symm)]
    refine dp_out hpk hg j (k + 1) (by omega) x (by push_cast; omega) fun p hp => ?_
    rw [st_next hpk hg hk] at hp
    rcases List.mem_append.mp hp with hp | hp
    · exact ho p (drP_mem.mp (drP_mem.mp hp).1).1
    · rw [List.mem_singleton.mp hp]; show n + (k : Int) ≠ x; omega
theorem cnt_one : ∀ {ps : List Pt} {F : Int → Int} (s : Int), Nd ps → (∀ x, (∀ p ∈ ps, p.1 ≠ x) → x = s → F x = 0) → (ps.map fun p => (([p.1] : List Int).count s : Int) * F p.1).sum = F s
  | [], F, s, _, h0 => by rw [h0 s (fun p hp => by cases hp) rfl]; rfl
  | q :: ps, F, s, hn, h0 => by
    have hn : (q.1 :: ps.map Prod.fst).Nodup := hn
    obtain ⟨h1, h2⟩ := List.nodup_cons.mp hn
    rw [List.map_cons, List.sum_cons]
    by_cases e : q.1 = s
    · have hz : (ps.map fun p => (([p.1] : List Int).count s : Int) * F p.1).sum = 0 := by
        rw [show (ps.map fun p => (([p.1] : List Int).count s : Int) * F p.1) = ps.map fun _ => 0 from List.map_congr_left fun p hp => by
          have : p.1 ≠ s := fun z => h1 (by rw [e, ← z]; exact List.mem_map_of_mem hp)
          rw [List.count_singleton, if_neg (by simpa using this)]; simp]
        clear h1 h2 hn h0
        generalize ps = ps'
        induction ps' with
        | nil => rfl
        | cons _ _ ih => rw [List.map_cons, List.sum_cons, ih]; rfl
      rw [hz, e, List.count_singleton_self]; simp
    · rw [cnt_one (F := F) s h2 fun x hx ex => h0 x (fun p hp => by
        rcases List.mem_cons.mp hp with rfl | hp
        · rw [ex]; exact e
        · exact hx p hp) ex]
      rw [List.count_singleton, if_neg (by simpa using e)]; simp
/-- the law's own look at depths -/
theorem cnt_dp {n : Int} {ps qs : List Pt} (hpk : Pk n 0 ps) (hg : Gd n ps qs) (s : Int) (hs : s < n) : cntF n qs s qs.length = dpt n qs 0 s := by
  have h1 := cnt_sum hpk hg s qs.length (Nat.le_refl _)
  have h2 : ((stP n ps qs qs.length).map fun p => ((insF n qs qs.length p.1).count s : Int) * dpt n qs qs.length p.1).sum = 0 := by
    rw [show ((stP n ps qs qs.length).map fun p => ((insF n qs qs.length p.1).count s : Int) * dpt n qs qs.length p.1) = (stP n ps qs qs.length).map fun _ => 0 from List.map_congr_left fun p _ => by rw [dp_end, Int.mul_zero]]
    induction stP n ps qs qs.length with
    | nil => rfl
    | cons _ _ ih => rw [List.map_cons, List.sum_cons, ih]; rfl
  rw [h2, Int.add_zero] at h1
  rw [h1]
  refine cnt_one s hpk.nd fun x hx ex => ?_
  subst ex
  exact dp_out hpk hg qs.length 0 (by omega) x (by push_cast; omega) hx

/-! ### lengths as a list -/
def rmL (ls : List Int) : Int := ((ls.filter fun l => decide (0 < l)).map fun l => (2 : Int) ^ (15 - l).toNat).sum
def dotL : List Int → List Int → Int
  | c :: cs, l :: ls => c * l + dotL cs ls
  | _, _ => 0
theorem rng_shift (F : Int → Int) (m : Nat) (k : Int) : (List.range (m + 1)).map (fun (s : Nat) => F (k + s)) = F k :: (List.range m).map fun (s : Nat) => F (k + 1 + s) := by
  rw [List.range_succ_eq_map, List.map_cons, List.map_map]
  congr 1
  · show F (k + ((0 : Nat) : Int)) = F k; rw [show k + ((0 : Nat) : Int) = k by omega]
  · refine List.map_congr_left fun s _ => ?_
    show F (k + ((s + 1 : Nat) : Int)) = _
    rw [show k + ((s + 1 : Nat) : Int) = k + 1 + s by omega]
theorem dot_fp (F : Int → Int) : ∀ (cs : List Int) (k : Int), (∀ c ∈ cs, 0 ≤ c) → dotL cs ((List.range cs.length).map fun (s : Nat) => F (k + s)) = ((fpF k cs).map fun p => p.2 * F p.1).sum
  | [], _, _ => rfl
  | c :: cs, k, h => by
    rw [List.length_cons, rng_shift]
    show c * F k + dotL cs _ = _
    rw [dot_fp F cs (k + 1) fun x hx => h x (List.mem_cons_of_mem _ hx)]
    have e : fpF k (c :: cs) = if 0 < c then (k, c) :: fpF (k + 1) cs else fpF (k + 1) cs := rfl
    rw [e]
    have hc := h c (List.mem_cons_self ..)
    split
    · rw [List.map_cons, List.sum_cons]
    · rw [show c = 0 by omega]; omega
theorem rm_fp (F : Int → Int) : ∀ (cs : List Int) (k : Int), (∀ i, i < cs.length → (0 < cs.getD i 0 ↔ 0 < F (k + (i : Nat)))) → rmL ((List.range cs.length).map fun (s : Nat) => F (k + s)) = ((fpF k cs).map fun p => (2 : Int) ^ (15 - F p.1).toNat).sum
  | [], _, _ => rfl
  | c :: cs, k, h => by
    rw [List.length_cons, rng_shift]
    have ih := rm_fp F cs (k + 1) fun i hi => by
      have := h (i + 1) (by rw [List.length_cons]; omega)
      rw [show k + ((i + 1 : Nat) : Int) = k + 1 + (i : Nat) by omega] at this
      exact this
    have h0 := h 0 (by rw [List.length_cons]; omega)
    rw [show k + ((0 : Nat) : Int) = k by omega] at h0
    have h0 : 0 < c ↔ 0 < F k := h0
    have e : fpF k (c :: cs) = if 0 < c then (k, c) :: fpF (k + 1) cs else fpF (k + 1) cs := rfl
    unfold rmL at ih ⊢
    rw [e, List.filter_cons]
    by_cases hc : 0 < c
    · rw [if_pos hc, if_pos (decide_eq_true (h0.mp hc)), List.map_cons, List.map_cons, List.sum_cons, List.sum_cons, ih]
    · rw [if_neg hc, if_neg (fun z => hc (h0.mpr (of_decide_eq_true z))), ih]
structure Lns (cs ls : List Int) (b : Int) : Prop where
  len : ls.length = cs.length
  bd : ∀ l ∈ ls, 0 ≤ l ∧ l ≤ 14
  has : ∀ i, i < cs.length → 0 < cs.getD i 0 → 0 < ls.getD i 0
  room : rmL ls ≤ 32768
  dot : dotL cs ls = b
theorem fpF_key : ∀ (cs : List Int) (k : Int) (i : Nat), i < cs.length → 0 < cs.getD i 0 → (k + (i : Nat), cs.getD i 0) ∈ fpF k cs
  | [], _, _, h, _ => by cases h
  | c :: cs, k, 0, _, h => by
    have h : 0 < c := h
    show (k + ((0 : Nat) : Int), c) ∈ if 0 < c then (k, c) :: fpF (k + 1) cs else fpF (k + 1) cs
    rw [if_pos h, show k + ((0 : Nat) : Int) = k by omega]; exact List.mem_cons_self ..
  | c :: cs, k, i + 1, hi, h => by
    have := fpF_key cs (k + 1) i (by rw [List.length_cons] at hi; omega) h
    rw [show k + 1 + (i : Nat) = k + ((i + 1 : Nat) : Int) by omega] at this
    show (_, cs.getD i 0) ∈ if 0 < c then (k, c) :: fpF (k + 1) cs else fpF (k + 1) cs
    split
    · exact List.mem_cons_of_mem _ this
    · exact this
theorem fpF_val {cs : List Int} {k : Int} {i : Nat} {w : Int} (hi : i < cs.length) (h : (k + (i : Nat), w) ∈ fpF k cs) : 0 < cs.getD i 0 := by
  induction cs generalizing k i with
  | nil => cases hi
  | cons c cs ih =>
    have e : fpF k (c :: cs) = if 0 < c then (k, c) :: fpF (k + 1) cs else fpF (k + 1) cs := rfl
    rw [e] at h
    cases i with
    | zero =>
      by_cases hc : 0 < c
      · exact hc
      · rw [if_neg hc] at h
        have := (fpF_mem h).1
        have this : k + 1 ≤ k + ((0 : Nat) : Int) := this
        omega
    | succ i =>
      have h' : (k + 1 + (i : Nat), w) ∈ fpF (k + 1) cs := by
        rw [show k + 1 + (i : Nat) = k + ((i + 1 : Nat) : Int) by omega]
        by_cases hc : 0 < c
        · rw [if_pos hc] at h
          rcases List.mem_cons.mp h with e | h
          · have : k + ((i + 1 : Nat) : Int) = k := congrArg Prod.fst e
            omega
          · exact h
        · rw [if_neg hc] at h; exact h
      exact ih (by rw [List.length_cons] at hi; omega) h'
theorem fp_sum : ∀ (cs : List Int) (k : Int), (∀ c ∈ cs, 0 ≤ c) → ((fpF k cs).map Prod.snd).sum = cs.sum
  | [], _, _ => rfl
  | c :: cs, k, h => by
    have e : fpF k (c :: cs) = if 0 < c then (k, c) :: fpF (k + 1) cs else fpF (k + 1) cs := rfl
    have hc := h c (List.mem_cons_self ..)
    rw [e, List.sum_cons, ← fp_sum cs (k + 1) fun x hx => h x (List.mem_cons_of_mem _ hx)]
    split
    · rw [List.map_cons, List.sum_cons]
    · omega
theorem pow_pos15 (n : Nat) : 0 < (2 : Int) ^ n := Int.pow_pos (by decide)
theorem psum_nn : ∀ (l : List Pt) (f : Pt → Nat), 0 ≤ (l.map fun p => (2 : Int) ^ f p).sum
  | [], _ => Int.le_refl _
  | p :: l, f => by rw [List.map_cons, List.sum_cons]; have := pow_pos15 (f p); have := psum_nn l f; omega
theorem psum_mem {l : List Pt} {f : Pt → Nat} {p q : Pt} (hp : p ∈ l) (hq : q ∈ l) (hne : p ≠ q) : (2 : Int) ^ f p < (l.map fun p => (2 : Int) ^ f p).sum := by
  induction l with
  | nil => cases hp
  | cons x l ih =>
    rw [List.map_cons, List.sum_cons]
    have h1 := pow_pos15 (f x)
    have h2 := psum_nn l f
    have hpos : ∀ {y : Pt}, y ∈ l → 0 < (l.map fun p => (2 : Int) ^ f p).sum := fun {y} hy => by
      clear ih hp hq
      induction l with
      | nil => cases hy
      | cons z l ih =>
        rw [List.map_cons, List.sum_cons]
        have := pow_pos15 (f z); have := psum_nn l f; omega
    have hle : ∀ {y : Pt}, y ∈ l → (2 : Int) ^ f y ≤ (l.map fun p => (2 : Int) ^ f p).sum := fun {y} hy => by
      clear ih hp hq hpos
      induction l with
      | nil => cases hy
      | cons z l ih =>
        rw [List.map_cons, List.sum_cons]
        have := pow_pos15 (f z); have h3 := psum_nn l f
        rcases List.mem_cons.mp hy with rfl | hy
        · omega
        · have := ih h3 hy; omega
    rcases List.mem_cons.mp hp with rfl | hp
    · rcases List.mem_cons.mp hq with rfl | hq
      · exact absurd rfl hne
      · have := hpos hq; omega
    · have := hle hp; omega
theorem wants {cs : List Int} (hc : Cts cs) : (∀ p ∈ fpF 0 cs, 1 ≤ p.2) ∧ ((fpF 0 cs).map Prod.snd).sum ≤ 1000 := ⟨fun p hp => by have := (fpF_mem hp).2.2; omega, by rw [fp_sum cs 0 fun c h => (hc.bd c h).1]; exact hc.sum⟩
theorem lens_of {cs : List Int} (hc : Cts cs) {qs : List Pt} {b : Int} (hp : Pap cs qs b) : Lns cs (lenBy (cs.length : Int) cs qs) b := by
  have hpk := fpF_pk cs
  have hnn : ∀ c ∈ cs, 0 ≤ c := fun c h => (hc.bd c h).1
  obtain ⟨hw, hsum⟩ := wants hc
  have hb := hp.bits
  have hl := hp.len
  unfold lenBy
  by_cases hq : qs = []
  · rw [if_pos hq] at hb ⊢
    subst hb
    have hfl : (fpF 0 cs).length ≤ 1 := by rw [hq] at hl; have hl : 0 = (fpF 0 cs).length - 1 := hl; omega
    have e : (cs.map fun c => if 0 < c then (1 : Int) else 0) = (List.range cs.length).map fun (s : Nat) => (fun x : Int => if 0 < cs.getD x.toNat 0 then (1 : Int) else 0) (0 + s) := by
      refine List.ext_getElem (by simp) fun i h1 h2 => ?_
      have hi : i < cs.length := by simpa using h1
      simp only [List.getElem_map, List.getElem_range]
      rw [show (0 + (i : Int)).toNat = i by omega, List.getD_eq_getElem?_getD, List.getElem?_eq_getElem hi]; rfl
    refine ⟨by rw [List.length_map], fun l h => ?_, fun i hi h => ?_, ?_, ?_⟩
    · obtain ⟨c, _, rfl⟩ := List.mem_map.mp h
      show 0 ≤ (if 0 < c then (1 : Int) else 0) ∧ (if 0 < c then (1 : Int) else 0) ≤ 14
      split <;> omega
    · rw [List.getD_eq_getElem?_getD, List.getElem?_eq_getElem hi] at h
      rw [List.getD_eq_getElem?_getD, List.getElem?_map, List.getElem?_eq_getElem hi]
      have h : 0 < cs[i] := h
      show 0 < (if 0 < cs[i] then (1 : Int) else 0)
      rw [if_pos h]; decide
    · rw [e, rm_fp (fun x : Int => if 0 < cs.getD x.toNat 0 then (1 : Int) else 0) cs 0 (fun i hi => by
        rw [show (0 + (i : Int)).toNat = i by omega]
        by_cases h : 0 < cs.getD i 0
        · rw [if_pos h]; exact ⟨fun _ => by decide, fun _ => h⟩
        · rw [if_neg h]; exact ⟨fun z => absurd z h, fun z => by cases z⟩)]
      match hf : fpF 0 cs with
      | [] => show (0 : Int) ≤ _; decide
      | [p] =>
        have hpm := fpF_mem (cs := cs) (k := 0) (p := p) (by rw [hf]; exact List.mem_cons_self ..)
        have : 0 < cs.getD p.1.toNat 0 := by
          refine fpF_val (k := 0) (w := p.2) (by omega) ?_
          rw [show (0 : Int) + (p.1.toNat : Nat) = p.1 by omega, hf]; exact List.mem_cons_self ..
        show (2 : Int) ^ (15 - (if 0 < cs.getD p.1.toNat 0 then (1 : Int) else 0)).toNat + 0 ≤ 32768
        rw [if_pos this]; decide
      | _ :: _ :: _ => rw [hf] at hfl; simp at hfl
    · clear e hw hsum hpk hl hfl hp
      induction cs with
      | nil => rfl
      | cons c cs ih =>
        show c * (if 0 < c then 1 else 0) + dotL cs (cs.map fun c => if 0 < c then 1 else 0) = _
        have h1 : dotL cs (cs.map fun c => if 0 < c then 1 else 0) = cs.sum := by
          clear ih hc
          induction cs with
          | nil => rfl
          | cons d cs ih =>
            show d * (if 0 < d then 1 else 0) + dotL cs (cs.map fun c => if 0 < c then 1 else 0) = _
            rw [ih fun x hx => by
              rcases List.mem_cons.mp hx with rfl | hx
              · exact hnn x (List.mem_cons_self ..)
              · exact hnn x (List.mem_cons_of_mem _ (List.mem_cons_of_mem _ hx)), List.sum_cons]
            have := hnn d (List.mem_cons_of_mem _ (List.mem_cons_self ..))
            split <;> omega
        rw [h1, List.sum_cons]
        have := hnn c (List.mem_cons_self ..)
        split <;> omega
  · rw [if_neg hq] at hb ⊢
    have hq0 : 0 < qs.length := List.length_pos_iff.mpr hq
    have e : ((List.range cs.length).map fun (s : Nat) => (fD (cs.length : Int) qs 0 qs.length (s : Int)).getD 0) = (List.range cs.length).map fun (s : Nat) => dpt (cs.length : Int) qs 0 (0 + s) := by
      refine List.map_congr_left fun s _ => ?_
      unfold dpt; rw [Nat.sub_zero, Int.zero_add]
    rw [e]
    have hB : ∀ k, k ≤ qs.length → ∀ p ∈ stP (cs.length : Int) (fpF 0 cs) qs k, dpt (cs.length : Int) qs k p.1 ≤ 14 := fun k hk p hpm => by
      have hB : ∀ p ∈ stP (cs.length : Int) (fpF 0 cs) qs qs.length, hgt (cs.length : Int) qs qs.length p.1 ≤ 14 := hgt_14 hpk hp.gd hw hsum
      have := dp_hgt hpk hp.gd 14 hB (qs.length - k) k (by omega) p hpm
      omega
    have hout : ∀ x : Int, 0 ≤ x → x < cs.length → (∀ p ∈ fpF 0 cs, p.1 ≠ x) → dpt (cs.length : Int) qs 0 x = 0 := fun x h0 h1 h2 => dp_out hpk hp.gd qs.length 0 (by omega) x (by push_cast; omega) h2
    have hst := (stP_ok hpk hp.gd qs.length (Nat.le_refl _)).2
    have hkr := kraft hpk hp.gd (fun k hk p hpm => by have := hB k hk p hpm; omega) qs.length 0 (by omega)
    have h1 : (stP (cs.length : Int) (fpF 0 cs) qs qs.length).length = 1 := by omega
    rw [show ((stP (cs.length : Int) (fpF 0 cs) qs qs.length).map fun _ => (2 : Int) ^ 15).sum = 32768 by
      match stP (cs.length : Int) (fpF 0 cs) qs qs.length, h1 with
      | [_], _ => rfl] at hkr
    have hpos : ∀ p ∈ fpF 0 cs, 0 < dpt (cs.length : Int) qs 0 p.1 := fun p hpm => by
      have hn0 := dp_nn (cs.length : Int) qs qs.length 0 (by omega) p.1
      by_cases hz : dpt (cs.length : Int) qs 0 p.1 = 0
      · have hl2 : 2 ≤ (fpF 0 cs).length := by omega
        obtain ⟨q, hqm, hne⟩ : ∃ q ∈ fpF 0 cs, p ≠ q := by
          have hnd : ((fpF 0 cs).map Prod.fst).Nodup := fpF_nd cs 0
          match hf : fpF 0 cs, hl2 with
          | a :: b :: _, _ =>
            rw [hf] at hnd hpm
            by_cases hpa : p = a
            · refine ⟨b, List.mem_cons_of_mem _ (List.mem_cons_self ..), fun z => ?_⟩
              have := (List.nodup_cons.mp hnd).1
              exact this (by rw [← hpa, z]; exact List.mem_cons_self ..)
            · exact ⟨a, List.mem_cons_self .., hpa⟩
        have hkr : ((fpF 0 cs).map fun p => (2 : Int) ^ (15 - dpt (cs.length : Int) qs 0 p.1).toNat).sum = 32768 := hkr
        have := psum_mem (f := fun p => (15 - dpt (cs.length : Int) qs 0 p.1).toNat) hpm hqm hne
        rw [hkr, hz] at this
        exact absurd this (by decide)
      · omega
    refine ⟨by rw [List.length_map, List.length_range], fun l h => ?_, fun i hi h => ?_, ?_, ?_⟩
    · obtain ⟨s, hs, rfl⟩ := List.mem_map.mp h
      have hs := List.mem_range.mp hs
      have hn0 := dp_nn (cs.length : Int) qs qs.length 0 (by omega) (0 + s)
      refine ⟨hn0, ?_⟩
      by_cases hx : ∃ p ∈ fpF 0 cs, p.1 = 0 + (s : Int)
      · obtain ⟨p, hpm, hpe⟩ := hx
        rw [← hpe]; exact hB 0 (by omega) p hpm
      · rw [hout (0 + s) (by omega) (by omega) fun p hpm hpe => hx ⟨p, hpm, hpe⟩]; decide
    · rw [List.getD_eq_getElem?_getD, List.getElem?_map, List.getElem?_range hi]
      exact hpos _ (fpF_key cs 0 i hi h)
    · rw [rm_fp (fun x => dpt (cs.length : Int) qs 0 x) cs 0 (fun i hi => ⟨fun h => hpos _ (fpF_key cs 0 i hi h), fun h => ?_⟩)]
      · have hkr : ((fpF 0 cs).map fun p => (2 : Int) ^ (15 - dpt (cs.length : Int) qs 0 p.1).toNat).sum = 32768 := hkr
        rw [hkr]; exact Int.le_refl _
      · by_cases hx : ∃ p ∈ fpF 0 cs, p.1 = 0 + (i : Int)
        · obtain ⟨p, hpm, hpe⟩ := hx
          exact fpF_val (k := 0) (w := p.2) hi (by rw [← hpe]; exact hpm)
        · rw [hout (0 + i) (by omega) (by omega) fun p hpm hpe => hx ⟨p, hpm, hpe⟩] at h
          cases h
    · rw [dot_fp (fun x => dpt (cs.length : Int) qs 0 x) cs 0 hnn, bits_sum hpk hp.gd, hb]
theorem pap_same {cs cs' : List Int} {qs qs' : List Pt} {b b' : Int} (hp : Pap cs qs b) (hp' : Pap cs' qs' b') (h : ((fpF 0 cs).map Prod.snd).Perm ((fpF 0 cs').map Prod.snd)) (hs : cs.sum = cs'.sum) : b = b' := by
  have hl := hp.len
  have hl' := hp'.len
  have hll : (fpF 0 cs).length = (fpF 0 cs').length := by have := h.length_eq; simpa using this
  have hb := hp.bits
  have hb' := hp'.bits
  by_cases hq : qs = []
  · have hq' : qs' = [] := by rw [hq] at hl; exact List.length_eq_zero_iff.mp (by have hl : 0 = (fpF 0 cs).length - 1 := hl; omega)
    rw [if_pos hq] at hb
    rw [if_pos hq'] at hb'
    omega
  · have hq0 : 0 < qs.length := List.length_pos_iff.mpr hq
    have hq' : qs' ≠ [] := fun z => by rw [z] at hl'; have hl' : 0 = (fpF 0 cs').length - 1 := hl'; omega
    rw [if_neg hq] at hb
    rw [if_neg hq'] at hb'
    rw [hb, hb', show qs'.length = qs.length by omega]
    exact (same_bits (fpF_pk cs) (fpF_pk cs') hp.gd hp'.gd h qs.length (Nat.le_refl _) (by omega)).1
theorem least_pap (cs : List Int) : ∃ b, Pap cs (paper (cs.length : Int) (fpF 0 cs)) b := ⟨_, paper_gd (fpF_pk cs), paper_len _ _, rfl⟩

/-! ### words, plain -/
def tw (p : Pt) : Int := (2 : Int) ^ (15 - p.1).toNat
def sumQ (P : List Pt) (c : Pt → Bool) : Int := (P.map fun p => if 0 < p.1 ∧ c p = true then tw p else 0).sum
theorem tw_pos (p : Pt) : 0 < tw p := Int.pow_pos (by decide)
theorem sumQ_cons (p : Pt) (P : List Pt) (c : Pt → Bool) : sumQ (p :: P) c = (if 0 < p.1 ∧ c p = true then tw p else 0) + sumQ P c := by unfold sumQ; rw [List.map_cons, List.sum_cons]
theorem sumQ_app (P Q : List Pt) (c : Pt → Bool) : sumQ (P ++ Q) c = sumQ P c + sumQ Q c := by unfold sumQ; rw [List.map_append, List.sum_append]
theorem sumQ_perm {P Q : List Pt} (h : P.Perm Q) (c : Pt → Bool) : sumQ P c = sumQ Q c := sum_perm (h.map _)
theorem sumQ_nn : ∀ (P : List Pt) (c : Pt → Bool), 0 ≤ sumQ P c
  | [], _ => Int.le_refl _
  | p :: P, c => by
    rw [sumQ_cons]
    have := sumQ_nn P c
    have := tw_pos p
    split <;> omega
theorem sumQ_mono : ∀ {P : List Pt} {c d : Pt → Bool}, (∀ p ∈ P, c p = true → d p = true) → sumQ P c ≤ sumQ P d
  | [], _, _, _ => Int.le_refl _
  | p :: P, c, d, h => by
    rw [sumQ_cons, sumQ_cons]
    have ih := sumQ_mono (P := P) fun x hx => h x (List.mem_cons_of_mem _ hx)
    have hp := tw_pos p
    have h0 := h p (List.mem_cons_self ..)
    by_cases h1 : 0 < p.1 ∧ c p = true
    · rw [if_pos h1, if_pos ⟨h1.1, h0 h1.2⟩]; omega
    · rw [if_neg h1]
      split <;> omega
theorem sumQ_congr {P : List Pt} {c d : Pt → Bool} (h : ∀ p ∈ P, c p = d p) : sumQ P c = sumQ P d := by
  unfold sumQ
  congr 1
  exact List.map_congr_left fun p hp => by rw [h p hp]
theorem sumQ_zero {P : List Pt} {c : Pt → Bool} (h : ∀ p ∈ P, c p = false) : sumQ P c = 0 := by
  induction P with
  | nil => rfl
  | cons p P ih =>
    rw [sumQ_cons, ih fun x hx => h x (List.mem_cons_of_mem _ hx), h p (List.mem_cons_self ..), if_neg (fun z => by cases z.2)]; rfl
/-- one more -/
theorem sumQ_add : ∀ {P : List Pt} {c d : Pt → Bool} {q : Pt}, q ∈ P → 0 < q.1 → c q = false → d q = true → (∀ p ∈ P, c p = true → d p = true) → sumQ P c + tw q ≤ sumQ P d
  | p :: P, c, d, q, hq, h0, hc, hd, h => by
    rw [sumQ_cons, sumQ_cons]
    have hp := tw_pos p
    have hm := sumQ_mono (P := P) (c := c) (d := d) fun x hx => h x (List.mem_cons_of_mem _ hx)
    rcases List.mem_cons.mp hq with rfl | hq
    · rw [if_neg (fun z => by rw [hc] at z; cases z.2), if_pos ⟨h0, hd⟩]; omega
    · have ih := sumQ_add hq h0 hc hd fun x hx => h x (List.mem_cons_of_mem _ hx)
      have h1 := h p (List.mem_cons_self ..)
      by_cases h2 : 0 < p.1 ∧ c p = true
      · rw [if_pos h2, if_pos ⟨h2.1, h1 h2.2⟩]; omega
      · rw [if_neg h2]
        split <;> omega
theorem sumQ_mul {m : Int} (hm : m ≤ 15) : ∀ {P : List Pt} {c : Pt → Bool}, (∀ p ∈ P, c p = true → 0 < p.1 → p.1 ≤ m) → ∃ t : Int, 0 ≤ t ∧ sumQ P c = t * (2 : Int) ^ (15 - m).toNat
  | [], _, _ => ⟨0, Int.le_refl _, by rw [Int.zero_mul]; rfl⟩
  | p :: P, c, h => by
    obtain ⟨t, ht0, ht⟩ := sumQ_mul hm (P := P) (c := c) fun x hx => h x (List.mem_cons_of_mem _ hx)
    rw [sumQ_cons, ht]
    by_cases h1 : 0 < p.1 ∧ c p = true
    · have h2 := h p (List.mem_cons_self ..) h1.2 h1.1
      refine ⟨2 ^ (m - p.1).toNat + t, by have : 0 < (2 : Int) ^ (m - p.1).toNat := Int.pow_pos (by decide)
                                          omega, ?_⟩
      rw [if_pos h1, Int.add_mul, ← Int.pow_add, show (m - p.1).toNat + (15 - m).toNat = (15 - p.1).toNat by omega]; rfl
    · exact ⟨t, ht0, by rw [if_neg h1, Int.zero_add]⟩
/-- lengths and symbols -/
def enP (ls : List Int) : List Pt := (List.range ls.length).map fun (s : Nat) => (ls.getD s 0, (s : Int))
theorem enP_mem {ls : List Int} {p : Pt} : p ∈ enP ls ↔ 0 ≤ p.2 ∧ p.2 < ls.length ∧ p.1 = ls.getD p.2.toNat 0 := by
  unfold enP
  rw [List.mem_map]
  constructor
  · rintro ⟨s, hs, rfl⟩
    have hs := List.mem_range.mp hs
    exact ⟨by show 0 ≤ (s : Int); omega, by show (s : Int) < _; omega, by show ls.getD s 0 = ls.getD (s : Int).toNat 0; rw [Int.toNat_natCast]⟩
  · rintro ⟨h0, h1, h2⟩
    refine ⟨p.2.toNat, List.mem_range.mpr (by omega), ?_⟩
    rw [← h2, show ((p.2.toNat : Nat) : Int) = p.2 by omega]
def plc (ls : List Int) (s : Int) : Int := sumQ (enP ls) fun p => ltP p (ls.getD s.toNat 0, s)
theorem rm_sumQ (ls : List Int) : rmL ls = sumQ (enP ls) fun _ => true := by
  unfold rmL sumQ enP
  rw [List.map_map]
  have : ∀ l : List Int, ((l.filter fun l => decide (0 < l)).map fun l => (2 : Int) ^ (15 - l).toNat).sum = (l.map fun x => if 0 < x ∧ true = true then (2 : Int) ^ (15 - x).toNat else 0).sum := fun l => by
    induction l with
    | nil => rfl
    | cons x l ih =>
      rw [List.filter_cons, List.map_cons, List.sum_cons, ← ih]
      by_cases h : 0 < x
      · rw [if_pos (decide_eq_true h), if_pos ⟨h, rfl⟩, List.map_cons, List.sum_cons]
      · rw [if_neg (fun z => h (of_decide_eq_true z)), if_neg (fun z => h z.1), Int.zero_add]
  rw [this]
  congr 1
  refine List.ext_getElem (by simp) fun i h1 h2 => ?_
  have hi : i < ls.length := by simpa using h1
  simp only [List.getElem_map, List.getElem_range, Function.comp]
  rw [List.getD_eq_getElem?_getD, List.getElem?_eq_getElem hi]; rfl
/-- the word of a symbol -/
def wordN (ls : List Int) (s : Int) : Int := plc ls s / (2 : Int) ^ (15 - ls.getD s.toNat 0).toNat
structure Ln (ls : List Int) : Prop where
  bd : ∀ l ∈ ls, 0 ≤ l ∧ l ≤ 15
  room : rmL ls ≤ 32768
theorem Ln.at {ls : List Int} (h : Ln ls) {s : Int} (h0 : 0 ≤ s) (h1 : s < ls.length) : 0 ≤ ls.getD s.toNat 0 ∧ ls.getD s.toNat 0 ≤ 15 := by
  rw [List.getD_eq_getElem?_getD, List.getElem?_eq_getElem (show s.toNat < ls.length by omega)]
  exact h.bd _ (List.getElem_mem _)
section
variable {ls : List Int} (h : Ln ls) {s : Int} (h0 : 0 ≤ s) (h1 : s < ls.length) (hl : 0 < ls.getD s.toNat 0)
include h h0 h1 hl
theorem plc_mul : plc ls s = wordN ls s * (2 : Int) ^ (15 - ls.getD s.toNat 0).toNat ∧ 0 ≤ wordN ls s := by
  have hb := h.at h0 h1
  obtain ⟨t, ht0, ht⟩ := sumQ_mul (m := ls.getD s.toNat 0) (by omega) (P := enP ls) (c := fun p => ltP p (ls.getD s.toNat 0, s)) (fun p hp hc h0 => by
    have := of_decide_eq_true hc
    have : p.1 < ls.getD s.toNat 0 ∨ (p.1 = ls.getD s.toNat 0 ∧ p.2 < s) := this
    omega)
  have hp : (0 : Int) < 2 ^ (15 - ls.getD s.toNat 0).toNat := Int.pow_pos (by decide)
  have e : wordN ls s = t := by
    unfold wordN plc
    rw [ht, Int.mul_ediv_cancel _ (by omega)]
  rw [e]
  exact ⟨ht, ht0⟩
theorem plc_top : plc ls s + (2 : Int) ^ (15 - ls.getD s.toNat 0).toNat ≤ 32768 := by
  have := sumQ_add (P := enP ls) (c := fun p => ltP p (ls.getD s.toNat 0, s)) (d := fun _ => true) (q := (ls.getD s.toNat 0, s)) (enP_mem.mpr ⟨h0, h1, rfl⟩) hl (by unfold ltP; simp) rfl (fun _ _ _ => rfl)
  have hr := h.room
  rw [rm_sumQ] at hr
  exact Int.le_trans this hr
theorem wordN_lt : wordN ls s < (2 : Int) ^ (ls.getD s.toNat 0).toNat := by
  have hb := h.at h0 h1
  obtain ⟨e, hn⟩ := plc_mul h h0 h1 hl
  have ht := plc_top h h0 h1 hl
  rw [e] at ht
  have hT : (32768 : Int) = 2 ^ (ls.getD s.toNat 0).toNat * 2 ^ (15 - ls.getD s.toNat 0).toNat := by
    rw [← Int.pow_add, show (ls.getD s.toNat 0).toNat + (15 - ls.getD s.toNat 0).toNat = 15 by omega]; decide
  have hp : (0 : Int) < 2 ^ (15 - ls.getD s.toNat 0).toNat := Int.pow_pos (by decide)
  rw [hT] at ht
  generalize (2 : Int) ^ (15 - ls.getD s.toNat 0).toNat = u at *
  generalize (2 : Int) ^ (ls.getD s.toNat 0).toNat = T at *
  have : (wordN ls s + 1) * u ≤ T * u := by rw [Int.add_mul, Int.one_mul]; exact ht
  have := Int.le_of_mul_le_mul_right this hp
  omega
/-- behind it, ahead of it -/
theorem plc_lt {r : Int} (r0 : 0 ≤ r) (r1 : r < ls.length) (hr : 0 < ls.getD r.toNat 0) (hne : r ≠ s) : plc ls s + (2 : Int) ^ (15 - ls.getD s.toNat 0).toNat ≤ plc ls r ∨ plc ls r + (2 : Int) ^ (15 - ls.getD r.toNat 0).toNat ≤ plc ls s := by
  have key : ∀ a b : Int, 0 ≤ a → a < ls.length → 0 < ls.getD a.toNat 0 → ltP (ls.getD a.toNat 0, a) (ls.getD b.toNat 0, b) = true → plc ls a + (2 : Int) ^ (15 - ls.getD a.toNat 0).toNat ≤ plc ls b := fun a b a0 a1 ha hlt => by
    refine sumQ_add (P := enP ls) (c := fun p => ltP p (ls.getD a.toNat 0, a)) (d := fun p => ltP p (ls.getD b.toNat 0, b)) (q := (ls.getD a.toNat 0, a)) (enP_mem.mpr ⟨a0, a1, rfl⟩) ha (by unfold ltP; simp) hlt (fun p _ hp => ?_)
    unfold ltP at *
    simp at *
    omega
  by_cases hc : ltP (ls.getD s.toNat 0, s) (ls.getD r.toNat 0, r) = true
  · exact .inl (key s r h0 h1 hl hc)
  · refine .inr (key r s r0 r1 hr ?_)
    unfold ltP at *
    simp at *
    omega
end
/-! ### the sorted walk -/
theorem enP_nd (ls : List Int) : (enP ls).Nodup := by
  unfold enP
  refine List.Pairwise.map _ (fun a b hab => ?_) List.nodup_range
  intro z
  have : (a : Int) = b := congrArg Prod.snd z
  exact hab (by omega)
theorem sort_strict (P : List Pt) (hn : P.Nodup) : (P.mergeSort lePp).Pairwise fun x y => ltP x y = true := by
  have h1 := lePp_pw P
  have h2 : (P.mergeSort lePp).Nodup := (lePp_perm P).nodup_iff.mpr hn
  refine (h1.and h2).imp fun {a b} h => ?_
  obtain ⟨h, hne⟩ := h
  unfold ltP
  refine decide_eq_true ?_
  rcases h with h | ⟨h, h'⟩
  · exact .inl h
  · refine .inr ⟨h, ?_⟩
    have : a.2 ≠ b.2 := fun z => hne (Prod.ext h z)
    omega
theorem take_sum {P : List Pt} (hs : P.Pairwise fun x y => ltP x y = true) {i : Nat} {p : Pt} (hi : P[i]? = some p) : sumQ (P.take i) (fun _ => true) = sumQ P fun x => ltP x p := by
  obtain ⟨hil, he⟩ := List.getElem?_eq_some_iff.mp hi
  have hsp : P = P.take i ++ p :: P.drop (i + 1) := by
    conv => lhs; rw [← List.take_append_drop i P, List.drop_eq_getElem_cons hil, he]
  rw [hsp] at hs
  obtain ⟨_, h2, h3⟩ := List.pairwise_append.mp hs
  obtain ⟨h4, _⟩ := List.pairwise_cons.mp h2
  conv => rhs; rw [hsp, sumQ_app, sumQ_cons]
  rw [sumQ_zero (P := P.drop (i + 1)) (c := fun x => ltP x p) (fun q hq => by
    have := h4 q hq
    unfold ltP at *
    simp at *
    omega), if_neg (fun z => by
    have := of_decide_eq_true z.2
    omega), sumQ_congr (P := P.take i) (c := fun x => ltP x p) (d := fun _ => true) fun q hq => h3 q hq p (List.mem_cons_self ..)]
  omega

/-! ### walks that the laws of tables share -/
theorem kb_int_int : kitB "int" "int" = some true := by decide +kernel
theorem kb_int_bool : kitB "int" "bool" = some false := by decide +kernel
theorem is_whole_int (i : Int) (M : List Cn) : m_is_whole_tables [.int i] M = .ok (.val (.bl true)) M := by
  refine fo_ok (P := fun _ _ => True) ?_
  walk_at "f0"; unfold b_is_whole_tables
  walk_at "w"
  refine w_isi (by exact rfl) (by exact rfl) kb_int_int ?_
  walk_at "w"
  refine w_isi (by exact rfl) (by exact rfl) kb_int_bool ?_
  walk_at "w"
  exact ⟨rfl, rfl⟩
theorem bls_map' (bs : List Bool) : blsD (bs.map D.bl) = some bs := by
  induction bs with
  | nil => rfl
  | cons n ns ih => show (blsD (ns.map D.bl)).map (n :: ·) = _; rw [ih]; rfl
def lstA (d : D) (ns : List Int) : Prop := d = .lst (ns.map D.int)
theorem is_list_ok {ns : List Int} {lo hi : Int} (h1 : 1 ≤ ns.length) (h2 : ns.length ≤ 64) (hb : ∀ n ∈ ns, lo ≤ n ∧ n ≤ hi) (M : List Cn) : m_is_list_of [.lst (ns.map D.int), .int lo, .int hi] M = .ok (.val (.bl true)) M := by
  refine fo_ok (P := fun _ _ => True) ?_
  walk_at "f0"; unfold b_is_list_of
  walk_at "w"
  refine w_isi (b := true) (by exact rfl) (by exact rfl) (by decide +kernel) ?_
  walk_at "w"
  rw [List.length_map]
  walk_at "w"
  refine w_lcMap (fun _ => .bl true) ?_ ?_ ?_
  · rw [List.length_map]; show ns.length ≤ 16777216; omega
  · intro x hx
    obtain ⟨n, hn, rfl⟩ := List.mem_map.mp hx
    obtain ⟨b1, b2⟩ := hb n hn
    walk_at "w"
    refine fo_eq (is_whole_int n M) ?_
    walk_at "w"
    rw [decide_eq_true b2]
    exact ⟨rfl, rfl⟩
  · walk_at "w"
    have e : (ns.map D.int).map (fun _ => D.bl true) = (ns.map fun _ => true).map D.bl := by rw [List.map_map, List.map_map]; rfl
    refine w_bls (bs := ns.map fun _ => true) rfl (by rw [e]; exact bls_map' _) ?_
    walk_at "w"
    rw [List.all_map, show (ns.all (id ∘ fun _ => true)) = true by rw [List.all_eq_true]; intro _ _; rfl]
    exact ⟨rfl, rfl⟩
theorem check_counts_ok {cs : List Int} (h : Cts cs) (M : List Cn) : m_check_counts [.lst (cs.map D.int)] M = .ok (.val .non) M := by
  refine fo_ok (P := fun _ _ => True) ?_
  walk_at "f0"; unfold b_check_counts
  walk_at "w"
  refine fo_eq (is_list_ok h.pos h.few h.bd M) ?_
  walk_at "w"
  refine w_ints (ns := cs) (d := .int cs.sum) rfl (intsD_map cs) rfl ?_
  walk_at "w"
  have hs := h.sum
  walk_at "w"
  exact ⟨trivial, rfl⟩
theorem first_parts_ok {cs : List Int} (hf : cs.length ≤ 64) (M : List Cn) : m_first_parts [.lst (cs.map D.int)] M = .ok (.new (.dK (dD (fpF 0 cs)))) M := by
  refine fo_ok (P := fun _ _ => True) ?_
  walk_at "f0"; unfold b_first_parts
  walk_at "w"
  refine w_forN (fun i s => ∃ e2 e3 : Option Ent, s = ⟨[some (.fz (.lst (cs.map D.int))), some (.ow (.dK (dD (fpF 0 (cs.take i))))), e2, e3], M⟩) ⟨none, none, rfl⟩ ?_ ?_
  · rintro i x s hi ⟨e2, e3, rfl⟩
    obtain ⟨y, hy, rfl⟩ := enum_get hi
    obtain ⟨c, hc, rfl⟩ := map_get hy
    have hil : i < cs.length := (List.getElem?_eq_some_iff.mp hc).1
    have hnext : fpF 0 (cs.take (i + 1)) = fpF 0 (cs.take i) ++ (if 0 < c then [((i : Int), c)] else []) := by
      rw [List.take_add_one, hc]
      show fpF 0 (cs.take i ++ [c]) = _
      rw [fpF_snoc, List.length_take, Nat.min_eq_left (by omega), Int.zero_add]
    have hlen : (fpF 0 (cs.take i)).length ≤ 64 := by have := fpF_len (cs.take i) 0; rw [List.length_take] at this; omega
    have hlt : ∀ p ∈ fpF 0 (cs.take i), p.1 ≠ (i : Int) := fun p hp => by have := fpF_mem hp; rw [List.length_take] at this; omega
    rw [hnext]
    walk_at "w"
    refine z_if (fun h => ?_) (fun h => ?_)
    · rw [if_pos h]
      walk_at "w"
      refine so_setK rfl rfl (by rw [dD_len]; show _ < 16777216; omega) ?_
      rw [pu_new hlt]
      walk_at "ds"
      exact ⟨_, _, rfl⟩
    · rw [if_neg h, List.append_nil]
      walk_at "w"
      exact ⟨_, _, rfl⟩
  · rintro s ⟨e2, e3, rfl⟩
    rw [enum_len, List.length_map, List.take_length]
    walk_at "w"
    exact ⟨rfl, rfl⟩

theorem least_ok {ps : List Pt} (h : ps ≠ []) (hz : ps.length ≤ 100) (M : List Cn) : m_least_part [.dK (dD ps)] M = .ok (.val (.int (least ps).1)) M := by
  refine fo_ok (P := fun _ _ => True) ?_
  walk_at "f0"; unfold b_least_part
  walk_at "w"
  refine w_lcMap (fun d => match d with | .tup [a, b] => .tup [b, a] | d => d) ?_ ?_ ?_
  · show ((dD ps).map _).length ≤ 16777216; rw [List.length_map, dD_len]; omega
  · intro x hx
    obtain ⟨q, hq, rfl⟩ := List.mem_map.mp hx
    obtain ⟨p, hp, rfl⟩ := List.mem_map.mp hq
    walk_at "w"
    exact ⟨rfl, rfl⟩
  · walk_at "w"
    have e : (dIt .items (dD ps)).map (fun d => match d with | .tup [a, b] => D.tup [b, a] | d => d) = (ps.map sw).map tP := by
      show ((dD ps).map fun p => D.tup [kD p.1, p.2]).map _ = _
      unfold dD
      rw [List.map_map, List.map_map, List.map_map]; rfl
    rw [e]
    cases ps with
    | nil => exact absurd rfl h
    | cons p ps =>
      refine w_minP (p := sw p) (ps := ps.map sw) rfl ?_
      walk_at "w"
      refine w_ixT (d := .int (minP (sw p) (ps.map sw)).2) rfl rfl rfl rfl rfl ?_
      walk_at "w"
      exact ⟨rfl, rfl⟩
theorem pairs_of_ok {cs : List Int} (h : Cts cs) (M : List Cn) : m_pairs_of [.lst (cs.map D.int)] M = .ok (.new (.lst ((paper (cs.length : Int) (fpF 0 cs)).map tP))) M := by
  refine fx_ok ?_
  walk_at "fx"; unfold b_pairs_of
  walk_at "w"
  refine fx_eq (check_counts_ok h M) ?_
  walk_at "w"
  refine fo_eq (first_parts_ok h.few M) ?_
  walk_at "w"
  have hpk := fpF_pk cs
  have hfl := fpF_len cs 0
  have hfew := h.few
  generalize fpF 0 cs = ps at hpk hfl ⊢
  generalize hn : (cs.length : Int) = n at hpk ⊢
  refine w_while (fun m s => ∃ (k : Nat) (e3 e4 e5 : Option Ent), m = ps.length - k ∧ (ps.length = 0 ∨ k + 1 ≤ ps.length) ∧ (ps.length = 0 → k = 0) ∧ s = ⟨[some (.fz (.lst (cs.map D.int))), some (.ow (.dK (dD (stF n ps k)))), some (.ow (.lst (((List.range k).map (pairAt n ps)).map tP))), e3, e4, e5], M⟩) _ ⟨0, none, none, none, rfl, by omega, fun _ => rfl, rfl⟩ ?_ ?_
  · rintro m s ⟨k, e3, e4, e5, rfl, hk, hk0, rfl⟩
    have hst : (stF n ps k).length + k = ps.length ∧ (1 < (stF n ps k).length → Pk n k (stF n ps k)) := by
      rcases hk with h0 | h1
      · have := hk0 h0; subst this; exact ⟨rfl, fun hh => by have : 1 < ps.length := hh; omega⟩
      · exact ⟨(stF_ok hpk k h1).2, fun _ => (stF_ok hpk k h1).1⟩
    obtain ⟨hl, hP⟩ := hst
    walk_at "w"
    rw [dD_len]
    refine z_if (fun hc => ?_) (fun hc => ?_)
    · have hc' : 1 < (stF n ps k).length := by omega
      have hp := hP hc'
      have hnil : stF n ps k ≠ [] := fun z => by rw [z] at hc'; simp at hc'
      have hstep : stF n ps (k + 1) = nxt (n + k) (stF n ps k) := rfl
      have hpair : pairAt n ps k = ((one (stF n ps k)).1, (oth (stF n ps k)).1) := rfl
      have hrange : (List.range (k + 1)).map (pairAt n ps) = (List.range k).map (pairAt n ps) ++ [pairAt n ps k] := by rw [List.range_succ, List.map_append]; rfl
      have hrl : ((List.range k).map (pairAt n ps)).length = k := by rw [List.length_map, List.length_range]
      walk_at "w"
      refine ⟨_, _, _, rfl, by show (D.noIdK _ && true) = true; rw [noId_dD]; rfl, least_ok hnil (by omega) [], rfl, ?_⟩
      have ho := one_mem hc'
      have hq := oth_mem hp.nd hc'
      have hl1 := drP_len hp.nd ho
      have hnil2 : drP (stF n ps k) (one (stF n ps k)).1 ≠ [] := fun z => by rw [z] at hq; cases hq
      have v1 : vl (dD (stF n ps k)) (.inl (one (stF n ps k)).1) = some (.int (one (stF n ps k)).2) := by rw [vl_dD, vlP_mem hp.nd ho]; rfl
      have v2 : vl (dD (drP (stF n ps k) (one (stF n ps k)).1)) (.inl (oth (stF n ps k)).1) = some (.int (oth (stF n ps k)).2) := by rw [vl_dD, vlP_mem (drP_nd hp.nd) hq]; rfl
      have hrst : drP (drP (stF n ps k) (one (stF n ps k)).1) (oth (stF n ps k)).1 = rst (stF n ps k) := rfl
      have hlr := rst_len hp.nd hc'
      have hfr : ∀ p ∈ rst (stF n ps k), p.1 ≠ n + k := fun p hpp => by
        have := hp.lt p (drP_mem.mp (drP_mem.mp hpp).1).1
        omega
      rw [show (least (stF n ps k)).1 = (one (stF n ps k)).1 from rfl]
      walk_at "w"
      refine ⟨_, _, _, rfl, rfl, v1, ?_⟩
      walk_at "ds"
      rw [dr_dD]
      walk_at "w"
      refine ⟨_, _, _, rfl, by show (D.noIdK _ && true) = true; rw [noId_dD]; rfl, least_ok hnil2 (by omega) [], rfl, ?_⟩
      rw [show (least (drP (stF n ps k) (one (stF n ps k)).1)).1 = (oth (stF n ps k)).1 from rfl]
      walk_at "w"
      refine ⟨_, _, _, rfl, rfl, v2, ?_⟩
      walk_at "ds"
      rw [dr_dD, hrst]
      refine ⟨_, rfl, ?_⟩
      walk_at "w"
      rw [List.length_map, List.length_map, hrl, hn]
      refine so_setK rfl rfl (by rw [dD_len]; show _ < 16777216; omega) ?_
      rw [pu_new hfr]
      walk_at "ds"
      walk_at "w"
      refine w_app rfl (by rw [List.length_map, hrl]; show _ < 16777216; omega) ?_
      walk_at "ds"
      exact ⟨ps.length - (k + 1), by omega, k + 1, _, _, _, rfl, by omega, by omega, by rw [hstep, hrange, List.map_append, hpair]; rfl⟩
    · have hk2 : k = ps.length - 1 := by omega
      subst hk2
      walk_at "w"
      exact ⟨rfl, rfl⟩
  · intro r hr e; subst e; exact hr

/-! ### the program's walks -/
theorem viewK_cid {s : Stt} {k : Nat} {l : List (Key × D)} (h : s.M[k]? = some (.dK l)) : viewD s (.val (.cid k)) = some l := by
  show s.M[k]?.bind Cn.aK = some l; rw [h]; rfl
theorem lenK_cid {M : List Cn} {k : Nat} {l : List (Key × D)} (h : M[k]? = some (.dK l)) : lenD M (.cid k) = some l.length := by
  show M[k]?.bind _ = _; rw [h]; rfl
def isI : D → Bool
  | .int _ => true
  | _ => false
def gdD (ps : List Pt) : D → Bool
  | .int i => (vlP ps i).isSome
  | _ => false
inductive W3 : D → Prop
  | int (i : Int) : W3 (.int i)
  | non : W3 .non
  | bl (b : Bool) : W3 (.bl b)
theorem is_whole_3 {d : D} (h : W3 d) (M : List Cn) : m_is_whole_tables [d] M = .ok (.val (.bl (isI d))) M := by
  cases h with
  | int i => exact is_whole_int i M
  | non =>
    refine fo_ok (P := fun _ _ => True) ?_
    walk_at "f0"; unfold b_is_whole_tables
    walk_at "w"
    refine w_isi (b := false) (by exact rfl) (by exact rfl) (by decide +kernel) ?_
    walk_at "w"
    exact ⟨rfl, rfl⟩
  | bl b =>
    refine fo_ok (P := fun _ _ => True) ?_
    walk_at "f0"; unfold b_is_whole_tables
    walk_at "w"
    refine w_isi (b := true) (by exact rfl) (by exact rfl) (by decide +kernel) ?_
    walk_at "w"
    refine w_isi (b := true) (by exact rfl) (by exact rfl) (by decide +kernel) ?_
    walk_at "w"
    exact ⟨rfl, rfl⟩
theorem w_eqG {s : Stt} {QA : AI → Stt → Prop} {X : Exn → Stt → Prop} {a b : AI} {k : Bool} (e : eqOf s a b = some k) (h : QA (.val (.bl k)) s) : Wo QA X (fEq s a b) := by
  unfold fEq; rw [e]; exact h
theorem vl_some (ps : List Pt) (i : Int) : (vl (dD ps) (.inl i)).isSome = (vlP ps i).isSome := by rw [vl_dD]; cases vlP ps i <;> rfl
theorem is_pair_two {x y : D} {e : Bool} (he : ∀ s, eqOf s (.val x) (.val y) = some e) (hx : W3 x) (hy : W3 y) {M : List Cn} {k : Nat} {ps : List Pt} (hM : M[k]? = some (.dK (dD ps))) : m_is_pair [.tup [x, y], .cid k] M = .ok (.val (.bl (!e && (gdD ps x && gdD ps y)))) M := by
  have h2 : ([x, y] : List D).length = 2 := rfl
  refine fo_ok (P := fun _ _ => True) ?_
  walk_at "f0"; unfold b_is_pair
  walk_at "w"
  refine w_isi (b := true) (by exact rfl) (by exact rfl) (by decide +kernel) ?_
  walk_at "w"
  refine w_ixT (d := x) rfl rfl rfl rfl rfl ?_
  walk_at "w"
  refine w_ixT (d := y) rfl rfl rfl rfl rfl ?_
  walk_at "w"
  refine w_eqG (he _) ?_
  walk_at "w"
  cases e with
  | true =>
    walk_at "w"
    exact ⟨rfl, rfl⟩
  | false =>
    walk_at "w"
    refine w_lcMap (fun d => .bl (gdD ps d)) ?_ ?_ ?_
    · show 2 ≤ sizeLine; decide
    · intro d hd
      have h3 : W3 d := by
        rcases List.mem_cons.mp hd with rfl | hd
        · exact hx
        · rw [List.mem_singleton.mp hd]; exact hy
      walk_at "w"
      refine fo_eq (is_whole_3 h3 _) ?_
      walk_at "w"
      cases h3 with
      | int i =>
        walk_at "w"
        refine w_inD (viewK_cid hM) ?_
        walk_at "w"
        exact ⟨by rw [vl_some]; rfl, rfl⟩
      | non =>
        walk_at "w"
        exact ⟨rfl, rfl⟩
      | bl b =>
        walk_at "w"
        exact ⟨rfl, rfl⟩
    · walk_at "w"
      refine w_bls (bs := [gdD ps x, gdD ps y]) rfl rfl ?_
      walk_at "w"
      exact ⟨by simp, rfl⟩
theorem is_pair_len {l : List D} (h : l.length ≠ 2) {M : List Cn} {k : Nat} : m_is_pair [.tup l, .cid k] M = .ok (.val (.bl false)) M := by
  refine fo_ok (P := fun _ _ => True) ?_
  walk_at "f0"; unfold b_is_pair
  walk_at "w"
  refine w_isi (b := true) (by exact rfl) (by exact rfl) (by decide +kernel) ?_
  walk_at "w"
  exact ⟨rfl, rfl⟩
theorem is_pair_lst {l : List D} {M : List Cn} {k : Nat} : m_is_pair [.lst l, .cid k] M = .ok (.val (.bl false)) M := by
  refine fo_ok (P := fun _ _ => True) ?_
  walk_at "f0"; unfold b_is_pair
  walk_at "w"
  refine w_isi (b := false) (by exact rfl) (by exact rfl) (by decide +kernel) ?_
  walk_at "w"
  exact ⟨rfl, rfl⟩
theorem eqOf_ints (i j : Int) (s : Stt) : eqOf s (.val (.int i)) (.val (.int j)) = some (i == j) := rfl
theorem put_bad {d : D} {M : List Cn} {k : Nat} {n a : D} (h : m_is_pair [d, .cid k] M = .ok (.val (.bl false)) M) : m_put_together [d, .cid k, n, a] M = .er ⟨3, [("at", a)]⟩ M := by
  refine fx_isEr ?_
  walk_at "fx"; unfold b_put_together
  walk_at "w"
  refine fo_eq h ?_
  walk_at "w"
  exact ⟨rfl, rfl⟩
theorem fmin_le : ∀ (is : List Int) (i : Int), ∀ j ∈ i :: is, is.foldl min i ≤ j
  | [], i, j, h => by rw [List.mem_singleton.mp h]; exact Int.le_refl _
  | y :: is, i, j, h => by
    have ih := fmin_le is (min i y)
    have hm := ih _ (List.mem_cons_self ..)
    show is.foldl min (min i y) ≤ j
    rcases List.mem_cons.mp h with rfl | h
    · omega
    · rcases List.mem_cons.mp h with rfl | h
      · omega
      · exact ih j (List.mem_cons_of_mem _ h)
theorem fmin_mem : ∀ (is : List Int) (i : Int), is.foldl min i ∈ i :: is
  | [], i => List.mem_singleton.mpr rfl
  | y :: is, i => by
    show is.foldl min (min i y) ∈ _
    rcases List.mem_cons.mp (fmin_mem is (min i y)) with h | h
    · rw [h]
      by_cases q : i ≤ y
      · rw [show min i y = i by omega]; exact List.mem_cons_self ..
      · rw [show min i y = y by omega]; exact List.mem_cons_of_mem _ (List.mem_cons_self ..)
    · exact List.mem_cons_of_mem _ (List.mem_cons_of_mem _ h)
theorem ints_dD (ps : List Pt) : intsD ((dD ps).map Prod.snd) = some (ps.map Prod.snd) := by
  unfold dD; rw [List.map_map]
  rw [show (ps.map (Prod.snd ∘ fun p : Pt => ((Sum.inl p.1 : Key), D.int p.2))) = (ps.map Prod.snd).map D.int by rw [List.map_map]; rfl]
  exact intsD_map _
theorem vl_at {ps : List Pt} {k w : Int} (hn : Nd ps) (h : (k, w) ∈ ps) : vl (dD ps) (.inl k) = some (.int w) := by
  rw [vl_dD, vlP_mem (p := (k, w)) hn h]; rfl
theorem some_at {ps : List Pt} {k w : Int} (hn : Nd ps) (h : (k, w) ∈ ps) : (vlP ps k).isSome = true := by
  rw [vlP_mem (p := (k, w)) hn h]; rfl
theorem none_at {ps : List Pt} {k : Int} (h : ∀ p ∈ ps, p.1 ≠ k) : (vlP ps k).isSome = false := by
  unfold vlP
  rw [List.find?_eq_none.mpr fun p hp => by simpa using h p hp]; rfl
structure InS (ps : List Pt) (q : Pt) : Prop where
  ne : q.1 ≠ q.2
  m1 : (q.1, wt ps q.1) ∈ ps
  m2 : (q.2, wt ps q.2) ∈ ps
theorem OkS.toI {ps : List Pt} {q : Pt} (h : OkS ps q) : InS ps q := ⟨h.ne, h.m1, h.m2⟩
theorem put_go {ps : List Pt} {q : Pt} {M : List Cn} {k : Nat} {n : Int} {a : D} (hM : M[k]? = some (.dK (dD ps))) (hn : Nd ps) (hz : ps.length ≤ 100) (hi : InS ps q) (hf : ∀ p ∈ ps, p.1 ≠ n) :
    ((∀ r ∈ drP (drP ps q.1) q.2, wt ps q.1 ≤ r.2 ∧ wt ps q.2 ≤ r.2) → m_put_together [tP q, .cid k, .int n, a] M = .ok (.val (.int (wt ps q.1 + wt ps q.2))) (M.set k (.dK (dD (stepP n ps q))))) ∧
    ((∃ r ∈ drP (drP ps q.1) q.2, r.2 < wt ps q.1 ∨ r.2 < wt ps q.2) → m_put_together [tP q, .cid k, .int n, a] M = .er ⟨3, [("at", a)]⟩ (M.set k (.dK (dD (drP (drP ps q.1) q.2))))) := by
  have hp : m_is_pair [tP q, .cid k] M = .ok (.val (.bl true)) M := by
    have := is_pair_two (eqOf_ints q.1 q.2) (.int _) (.int _) hM
    rw [show (q.1 == q.2) = false by simpa using hi.ne, show gdD ps (.int q.1) = true from some_at hn hi.m1, show gdD ps (.int q.2) = true from some_at hn hi.m2] at this
    exact this
  have hk := (List.getElem?_eq_some_iff.mp hM).1
  have v1 := vl_at hn hi.m1
  have v2 : vl (dD (drP ps q.1)) (.inl q.2) = some (.int (wt ps q.2)) := vl_at (drP_nd hn) (drP_mem.mpr ⟨hi.m2, fun z => hi.ne z.symm⟩)
  have hl1 : (drP (drP ps q.1) q.2).length ≤ ps.length := by
    unfold drP
    exact Nat.le_trans (List.length_filter_le ..) (List.length_filter_le ..)
  have hfr : ∀ p ∈ drP (drP ps q.1) q.2, p.1 ≠ n := fun p hp => hf p (drP_mem.mp (drP_mem.mp hp).1).1
  unfold stepP
  generalize wt ps q.1 = wa at v1 ⊢
  generalize wt ps q.2 = wb at v2 ⊢
  generalize hr : drP (drP ps q.1) q.2 = rs at hl1 hfr ⊢
  have hints := ints_dD rs
  have g1 : ∀ c : Cn, (M.set k c)[k]? = some c := fun c => List.getElem?_set_self hk
  constructor
  · intro hle
    refine fx_ok ?_
    walk_at "fx"; unfold b_put_together
    walk_at "w"
    refine fo_eq hp ?_
    walk_at "w"
    refine ⟨⟨_, viewK_cid hM⟩, ?_⟩
    walk_at "w"
    refine w_ixT (d := .int q.1) rfl rfl rfl rfl rfl ?_
    walk_at "w"
    refine ⟨_, _, _, hM, rfl, v1, ?_⟩
    rw [dr_dD]
    walk_at "ds"
    walk_at "w"
    refine ⟨⟨_, viewK_cid (g1 _)⟩, ?_⟩
    walk_at "w"
    refine w_ixT (d := .int q.2) rfl rfl rfl rfl rfl ?_
    walk_at "w"
    refine ⟨_, _, _, g1 _, rfl, v2, ?_⟩
    rw [dr_dD, hr]
    walk_at "ds"
    rw [List.set_set]
    walk_at "w"
    refine w_neD0 (viewK_cid (g1 _)) rfl ?_
    walk_at "w"
    rw [dD_len]
    cases hrs : rs with
    | nil =>
      rw [hrs] at hfr
      refine z_b0 (by rfl) ?_
      walk_at "w"
      refine w_ints (ns := [wa, wb]) (d := .int (wa + wb)) rfl rfl (by show some (D.int ([wa, wb].sum)) = _; simp) ?_
      walk_at "w"
      refine so_setK (l := dD []) (g1 _) rfl (by show 0 < 16777216; decide) ?_
      rw [pu_new hfr]
      walk_at "ds"
      rw [List.set_set]
      walk_at "w"
      refine w_ints (ns := [wa, wb]) (d := .int (wa + wb)) rfl rfl (by show some (D.int ([wa, wb].sum)) = _; simp) ?_
      walk_at "w"
      exact ⟨rfl, rfl⟩
    | cons r0 rt =>
      rw [← hrs]
      refine z_b1 (by rw [hrs]; rfl) ?_
      walk_at "w"
      rw [hrs] at hints
      refine ⟨_, _, _, _, rfl, g1 _, by rw [hrs]; exact hints, ?_⟩
      walk_at "w"
      refine w_ints (ns := [wa, wb]) (d := .int (max wa wb)) rfl rfl rfl ?_
      walk_at "w"
      have hmin := fmin_mem (rt.map Prod.snd) r0.2
      have hge : ¬ (rt.map Prod.snd).foldl min r0.2 < max wa wb := by
        have h5 : (rt.map Prod.snd).foldl min r0.2 ∈ rs.map Prod.snd := by rw [hrs]; exact hmin
        obtain ⟨r, hr5, e5⟩ := List.mem_map.mp h5
        have := hle r hr5
        omega
      refine z_ifN hge ?_
      walk_at "w"
      refine w_ints (ns := [wa, wb]) (d := .int (wa + wb)) rfl rfl (by show some (D.int ([wa, wb].sum)) = _; simp) ?_
      walk_at "w"
      refine so_setK (l := dD rs) (g1 _) rfl (by rw [dD_len]; show _ < 16777216; omega) ?_
      rw [pu_new hfr]
      walk_at "ds"
      rw [List.set_set]
      walk_at "w"
      refine w_ints (ns := [wa, wb]) (d := .int (wa + wb)) rfl rfl (by show some (D.int ([wa, wb].sum)) = _; simp) ?_
      walk_at "w"
      exact ⟨rfl, rfl⟩
  · rintro ⟨r1, hr1, hlt⟩
    refine fx_isEr ?_
    walk_at "fx"; unfold b_put_together
    walk_at "w"
    refine fo_eq hp ?_
    walk_at "w"
    refine ⟨⟨_, viewK_cid hM⟩, ?_⟩
    walk_at "w"
    refine w_ixT (d := .int q.1) rfl rfl rfl rfl rfl ?_
    walk_at "w"
    refine ⟨_, _, _, hM, rfl, v1, ?_⟩
    rw [dr_dD]
    walk_at "ds"
    walk_at "w"
    refine ⟨⟨_, viewK_cid (g1 _)⟩, ?_⟩
    walk_at "w"
    refine w_ixT (d := .int q.2) rfl rfl rfl rfl rfl ?_
    walk_at "w"
    refine ⟨_, _, _, g1 _, rfl, v2, ?_⟩
    rw [dr_dD, hr]
    walk_at "ds"
    rw [List.set_set]
    walk_at "w"
    refine w_neD0 (viewK_cid (g1 _)) rfl ?_
    walk_at "w"
    rw [dD_len]
    have hrs : ∃ r0 rt, rs = r0 :: rt := by
      cases rs with
      | nil => cases hr1
      | cons r0 rt => exact ⟨_, _, rfl⟩
    obtain ⟨r0, rt, hrs⟩ := hrs
    refine z_b1 (by rw [hrs]; rfl) ?_
    walk_at "w"
    rw [hrs] at hints
    refine ⟨_, _, _, _, rfl, g1 _, by rw [hrs]; exact hints, ?_⟩
    walk_at "w"
    refine w_ints (ns := [wa, wb]) (d := .int (max wa wb)) rfl rfl rfl ?_
    walk_at "w"
    have hmin := fmin_le (rt.map Prod.snd) r0.2 r1.2 (by
      have : r1.2 ∈ rs.map Prod.snd := List.mem_map_of_mem hr1
      rw [hrs] at this; exact this)
    refine z_ifY (by omega) ?_
    walk_at "w"
    exact ⟨rfl, rfl⟩

theorem py_tP (p : Pt) : (tP p).py = some (.tuple [.int p.1, .int p.2]) := rfl
theorem shaped_tP (qs : List Pt) : SeqAt.shaped (.list (qs.map fun p => PyData.tuple [.int p.1, .int p.2])) = true := shaped_map (fun _ => rfl) (fun _ => by show 1 ≤ 40; decide) qs
theorem eq_nil (qs : List Pt) (s : Stt) : eqOf s (.val (.lst (qs.map tP))) (.new (.lst [])) = some qs.isEmpty := by
  refine eqOf_of (x := .list (qs.map fun p => PyData.tuple [.int p.1, .int p.2])) (y := .list []) ?_ rfl (shaped_tP qs) (by decide) ?_
  · show (D.py (.lst (qs.map tP))) = _
    show (D.pyL (qs.map tP)).map PyData.list = _
    rw [pyL_map py_tP]; rfl
  · cases qs <;> rfl
theorem z_ifT {p A T : Prop} [Decidable p] (hT : T) (h : p → T → A) : if decide p = true then A else T := z_if (fun hp => h hp hT) (fun _ => hT)
theorem check_go {cs : List Int} (h : Cts cs) {xs : List D} {qs : List Pt} {P : AI → List Cn → Prop} {E : Exn → List Cn → Prop} (hl : qs.length ≤ xs.length) (hz : xs.length ≤ 1000)
    (hq : ∀ i, i < qs.length → xs[i]? = some (tP (qs.getD i (0, 0)))) (hg : Gd (cs.length : Int) (fpF 0 cs) qs)
    (he : (fpF 0 cs).length = 1 → ∀ s, eqOf s (.val (.lst xs)) (.new (.lst [])) = some xs.isEmpty)
    (h0 : (fpF 0 cs).length = 1 → xs = [] → ∀ M', P (.val (.int cs.sum)) M')
    (hend : xs.length = qs.length → ¬ ((fpF 0 cs).length = 1 ∧ xs = []) → (stP (cs.length : Int) (fpF 0 cs) qs qs.length).length ≤ 1 → ∀ M', P (.val (.int (btP (cs.length : Int) (fpF 0 cs) qs qs.length))) M')
    (hleft : xs.length = qs.length → 1 < (stP (cs.length : Int) (fpF 0 cs) qs qs.length).length → ∀ M', E ⟨3, [("at", .int (xs.length : Int))]⟩ M')
    (hbad : qs.length < xs.length → (∃ d, xs[qs.length]? = some d ∧ ∀ M k, M[k]? = some (.dK (dD (stP (cs.length : Int) (fpF 0 cs) qs qs.length))) → ∃ M', m_put_together [d, .cid k, .int ((cs.length : Int) + (qs.length : Int)), .int (qs.length : Int)] M = .er ⟨3, [("at", .int (qs.length : Int))]⟩ M') ∧ ∀ M', E ⟨3, [("at", .int (qs.length : Int))]⟩ M')
    (M : List Cn) : Fx P E (m_check_paper [.lst (cs.map D.int), .lst xs] M) := by
  have hpk := fpF_pk cs
  have hfl := fpF_len cs 0
  have hfew := h.few
  have hst := fun k hk => stP_ok hpk hg k hk
  walk_at "fx"; unfold b_check_paper
  walk_at "w"
  refine fx_eq (check_counts_ok h _) ?_
  walk_at "w"
  refine w_isi (b := true) (by exact rfl) (by exact rfl) (by decide +kernel) ?_
  walk_at "w"
  refine fo_eq (first_parts_ok h.few _) ?_
  walk_at "w"
  generalize fpF 0 cs = ps at *
  generalize hn : (cs.length : Int) = n at *
  have hlast : ∀ c : Cn, (M ++ [c])[M.length]? = some c := fun c => by rw [List.getElem?_append_right (Nat.le_refl _), Nat.sub_self]; rfl
  have hset : ∀ c d : Cn, (M ++ [c]).set M.length d = M ++ [d] := fun c d => by rw [List.set_append_right _ _ (Nat.le_refl _), Nat.sub_self]; rfl
  refine w_len (d := .cid M.length) (by exact rfl) (lenK_cid (hlast _)) ?_
  rw [dD_len]
  walk_at "w"
  by_cases hA : ps.length = 1 ∧ xs = []
  · refine z_if (fun hc => ?_) (fun hc => absurd (by have := hA.1; omega) hc)
    walk_at "w"
    refine w_eqG (he hA.1 _) ?_
    walk_at "w"
    refine z_b1 (by rw [hA.2]; rfl) ?_
    walk_at "w"
    refine w_ints (ns := cs) (d := .int cs.sum) rfl (intsD_map cs) rfl ?_
    walk_at "w"
    exact h0 hA.1 hA.2 _
  refine z_ifT ?_ (fun hc hT => ?_)
  rotate_left
  · have h1 : ps.length = 1 := by omega
    walk_at "w"
    refine w_eqG (he h1 _) ?_
    walk_at "w"
    refine z_b0 ?_ hT
    cases xs with
    | nil => exact absurd ⟨h1, rfl⟩ hA
    | cons _ _ => rfl
  walk_at "w"
  refine w_forN (fun i s => i ≤ qs.length ∧ ∃ e4 e5 : Option Ent, s = ⟨[some (.fz (.lst (cs.map D.int))), some (.fz (.lst xs)), some (.fz (.cid M.length)), some (.fz (.int (btP n ps qs i))), e4, e5], M ++ [.dK (dD (stP n ps qs i))]⟩) ⟨Nat.zero_le _, none, none, rfl⟩ ?_ ?_
  · rintro i y s hi ⟨hiq, e4, e5, rfl⟩
    obtain ⟨x, hx, rfl⟩ := enum_get hi
    have hix : i < xs.length := (List.getElem?_eq_some_iff.mp hx).1
    obtain ⟨hp, hlen⟩ := hst i hiq
    by_cases hiq2 : i < qs.length
    · have hx2 := hq i hiq2
      rw [hx] at hx2
      obtain rfl := Option.some.inj hx2
      have hs := hg i hiq2
      have hput := (put_go (a := .int (i : Int)) (hlast (.dK (dD (stP n ps qs i)))) hp.nd (by omega) hs.toI (n := n + (i : Int)) (fun p hpp => by have := hp.lt p hpp; omega)).1 hs.le
      rw [hset] at hput
      have hnext : stP n ps qs (i + 1) = stepP (n + (i : Int)) (stP n ps qs i) (qs.getD i (0, 0)) := rfl
      have hbn : btP n ps qs (i + 1) = btP n ps qs i + (wt (stP n ps qs i) (qs.getD i (0, 0)).1 + wt (stP n ps qs i) (qs.getD i (0, 0)).2) := rfl
      rw [hnext, hbn]
      walk_at "w"
      rw [List.length_map, hn]
      refine fx_eq hput ?_
      walk_at "w"
      exact ⟨by omega, _, _, rfl⟩
    · have : i = qs.length := by omega
      subst this
      obtain ⟨⟨d, hd, hput⟩, hE⟩ := hbad (by omega)
      rw [hx] at hd
      obtain rfl := Option.some.inj hd
      obtain ⟨M', hput⟩ := hput _ M.length (hlast _)
      walk_at "w"
      rw [List.length_map, hn]
      refine fx_er hput ?_
      exact hE _
  · rintro s ⟨hiq, e4, e5, rfl⟩
    rw [enum_len] at hiq ⊢
    have hxl : xs.length = qs.length := by omega
    rw [hxl]
    walk_at "w"
    refine w_len (d := .cid M.length) (by exact rfl) (lenK_cid (hlast _)) ?_
    rw [dD_len]
    walk_at "w"
    refine z_if (fun hc => ?_) (fun hc => ?_)
    · walk_at "w"
      exact hleft hxl (by omega) _
    · walk_at "w"
      exact hend hxl hA (by omega) _

theorem rgcD {n : Nat} (h : n ≤ 1000) : RgC ((n : Int) - 1) (-1) (-1) n := by
  refine ⟨by decide, by decide, ?_, ?_⟩
  · have f : ∀ x : Int, -1000000 ≤ x → x ≤ 1000000 → Builtin.Range.rangeFitsLong x = true := fun x h1 h2 => by unfold Builtin.Range.rangeFitsLong; simp; omega
    have hs : 0 ≤ Builtin.Range.rangeSize ((n : Int) - 1) (-1) (-1) ∧ Builtin.Range.rangeSize ((n : Int) - 1) (-1) (-1) ≤ 1000 := by unfold Builtin.Range.rangeSize; rw [if_neg (by decide), show (-(-1 : Int)) = 1 from rfl, Int.ediv_one]; split <;> omega
    unfold Builtin.Range.small
    rw [f _ (by omega) (by omega), f _ (by omega) (by omega), f _ (by omega) (by omega), f _ (by omega) (by omega), if_neg (by decide), f _ (by omega) (by omega), Bool.or_true]; rfl
  · unfold Builtin.Range.rangeSize
    rw [if_neg (by decide), show (-(-1 : Int)) = 1 from rfl, Int.ediv_one]
    split <;> omega
/-! ### lengths by a paper -/
def puP (ds : List Pt) (k w : Int) : List Pt := if (ds.any fun p => decide (p.1 = k)) = true then ds.map fun p => if p.1 = k then (p.1, w) else p else ds ++ [(k, w)]
theorem pu_dD (ds : List Pt) (k w : Int) : pu (dD ds) (.inl k) (.int w) = dD (puP ds k w) := by
  unfold pu puP
  have e : ((dD ds).any fun p => decide (p.1 = (Sum.inl k : Key))) = ds.any fun p => decide (p.1 = k) := by
    unfold dD; rw [List.any_map]
    congr 1
    funext p
    exact key_dec p.1 k
  rw [e]
  split
  · unfold dD
    rw [List.map_map, List.map_map]
    refine List.map_congr_left fun p _ => ?_
    show (if (Sum.inl p.1 : Key) = Sum.inl k then _ else _) = (Sum.inl (if p.1 = k then (p.1, w) else p).1, D.int (if p.1 = k then (p.1, w) else p).2)
    by_cases h : p.1 = k
    · rw [if_pos h, if_pos (congrArg Sum.inl h)]
    · rw [if_neg h, if_neg (fun q => h (Sum.inl.inj q))]
  · unfold dD; rw [List.map_append]; rfl
theorem puP_vl (ds : List Pt) (k w j : Int) : vlP (puP ds k w) j = if j = k then some w else vlP ds j := by
  unfold puP
  split
  · rename_i ha
    rw [List.any_eq_true] at ha
    obtain ⟨p0, hp0, e0⟩ := ha
    have e0 := of_decide_eq_true e0
    unfold vlP
    rw [List.find?_map]
    have ec : ((fun p : Pt => decide (p.1 = j)) ∘ fun p : Pt => if p.1 = k then (p.1, w) else p) = fun p : Pt => decide (p.1 = j) := by
      funext p
      show decide ((if p.1 = k then (p.1, w) else p).1 = j) = _
      split <;> rfl
    rw [ec]
    by_cases hj : j = k
    · rw [if_pos hj]
      cases hf : ds.find? fun p => decide (p.1 = j) with
      | none => exact absurd (decide_eq_true (e0.trans hj.symm)) (List.find?_eq_none.mp hf p0 hp0)
      | some p =>
        have this : p.1 = j := by have z := List.find?_some hf; simpa using z
        show some (if p.1 = k then (p.1, w) else p).2 = some w
        rw [if_pos (this.trans hj)]
    · rw [if_neg hj]
      cases hf : ds.find? fun p => decide (p.1 = j) with
      | none => rfl
      | some p =>
        have this : p.1 = j := by have z := List.find?_some hf; simpa using z
        show some (if p.1 = k then (p.1, w) else p).2 = some p.2
        rw [if_neg (fun z => hj (this.symm.trans z))]
  · rename_i ha
    unfold vlP
    rw [List.find?_append]
    by_cases hj : j = k
    · rw [if_pos hj, List.find?_eq_none.mpr fun p hp => by
        intro z
        have z := of_decide_eq_true z
        exact ha (List.any_eq_true.mpr ⟨p, hp, decide_eq_true (z.trans hj)⟩)]
      rw [Option.none_or, List.find?_cons, decide_eq_true (show ((k, w) : Pt).1 = j from hj.symm)]; rfl
    · rw [if_neg hj]
      have : ([(k, w)].find? fun p : Pt => decide (p.1 = j)) = none := by
        rw [List.find?_cons, decide_eq_false (show ¬ ((k, w) : Pt).1 = j from fun z => hj z.symm)]; rfl
      rw [this, Option.or_none]
theorem puP_len (ds : List Pt) (k w : Int) : (puP ds k w).length ≤ ds.length + 1 := by
  unfold puP
  split
  · rw [List.length_map]; omega
  · rw [List.length_append]; exact Nat.le_refl _
theorem len_by_er {cs : List Int} {d : D} {x : Exn} {M : List Cn} (h : Fx (fun _ _ => False) (fun x' _ => x' = x) (m_check_paper [.lst (cs.map D.int), d] M)) : Fx (fun _ _ => False) (fun x' _ => x' = x) (m_lengths_by [.lst (cs.map D.int), d] M) := by
  walk_at "fx"; unfold b_lengths_by
  walk_at "w"
  refine fx_use h (fun _ _ h => h.elim) ?_
  rintro x' M' rfl
  exact rfl
theorem atI_tP {qs : List Pt} {i : Nat} (h : i < qs.length) : atI (qs.map tP) (i : Int) = some (tP (qs.getD i (0, 0))) := by
  rw [atI_map, atI_nn (by omega), Int.toNat_natCast, List.getD_eq_getElem?_getD, List.getElem?_eq_getElem h]; rfl
def fndL (cs : List Int) (j : Nat) : List Int := (List.range cs.length).map fun (s : Nat) => if ((fpF 0 cs).take j).any (fun p => decide (p.1 = (s : Int))) = true then 1 else 0
theorem range_set {n i : Nat} {f : Nat → Int} {v : Int} : ((List.range n).map f).set i v = (List.range n).map fun s => if s = i then v else f s := by
  refine List.ext_getElem (by simp) fun k h1 h2 => ?_
  rw [List.getElem_set]
  simp only [List.getElem_map, List.getElem_range]
  by_cases h : i = k
  · rw [if_pos h, if_pos h.symm]
  · rw [if_neg h, if_neg (fun z => h z.symm)]
theorem fndL_next {cs : List Int} {j : Nat} {p : Pt} (hp : (fpF 0 cs)[j]? = some p) (h0 : 0 ≤ p.1) (h1 : p.1 < cs.length) : fndL cs (j + 1) = (fndL cs j).set p.1.toNat 1 := by
  unfold fndL
  rw [range_set]
  refine List.map_congr_left fun s hs => ?_
  rw [List.take_add_one, hp, List.any_append]
  show (if (_ || (([p] : List Pt).any fun p => decide (p.1 = (s : Int)))) = true then (1 : Int) else 0) = _
  rw [List.any_cons, List.any_nil, Bool.or_false]
  by_cases h : s = p.1.toNat
  · rw [if_pos h, decide_eq_true (show p.1 = (s : Int) by omega), Bool.or_true, if_pos rfl]
  · rw [if_neg h, decide_eq_false (show ¬ p.1 = (s : Int) by omega), Bool.or_false]
theorem fpF_has : ∀ (cs : List Int) (k : Int) (s : Nat), ((fpF k cs).any fun p => decide (p.1 = k + s)) = decide (0 < cs.getD s 0)
  | [], k, s => by show false = decide ((0 : Int) < ([] : List Int).getD s 0); rw [show ([] : List Int).getD s 0 = 0 from rfl]; rfl
  | c :: cs, k, 0 => by
    show ((if 0 < c then (k, c) :: fpF (k + 1) cs else fpF (k + 1) cs).any fun p => decide (p.1 = k + ((0 : Nat) : Int))) = decide (0 < c)
    by_cases h : 0 < c
    · rw [if_pos h, List.any_cons, decide_eq_true (show k = k + ((0 : Nat) : Int) by omega), decide_eq_true h]; rfl
    · rw [if_neg h, decide_eq_false h, List.any_eq_false]
      intro p hp
      have := (fpF_mem hp).1
      simp; omega
  | c :: cs, k, s + 1 => by
    show ((if 0 < c then (k, c) :: fpF (k + 1) cs else fpF (k + 1) cs).any fun p => decide (p.1 = k + ((s + 1 : Nat) : Int))) = decide (0 < cs.getD s 0)
    rw [← fpF_has cs (k + 1) s, show k + 1 + (s : Int) = k + ((s + 1 : Nat) : Int) by omega]
    by_cases h : 0 < c
    · rw [if_pos h, List.any_cons, decide_eq_false (show ¬ k = k + ((s + 1 : Nat) : Int) by omega), Bool.false_or]
    · rw [if_neg h]
theorem fndL_all (cs : List Int) : fndL cs (fpF 0 cs).length = cs.map fun c => if 0 < c then 1 else 0 := by
  unfold fndL
  refine List.ext_getElem (by simp) fun k h1 h2 => ?_
  have hk : k < cs.length := by simpa using h2
  simp only [List.getElem_map, List.getElem_range, List.take_length]
  have := fpF_has cs 0 k
  rw [Int.zero_add] at this
  rw [this, List.getD_eq_getElem?_getD, List.getElem?_eq_getElem hk]
  show (if decide (0 < cs[k]) = true then (1 : Int) else 0) = _
  by_cases h : 0 < cs[k]
  · rw [if_pos (decide_eq_true h), if_pos h]
  · rw [if_neg (fun z => h (of_decide_eq_true z)), if_neg h]
theorem len_by_ok {cs : List Int} (hc : Cts cs) {qs : List Pt} {P : AI → Prop} {M : List Cn} (hz : qs.length ≤ 1000) (h : Fx (fun a _ => P a) (fun _ _ => False) (m_check_paper [.lst (cs.map D.int), .lst (qs.map tP)] M)) : Fx (fun a _ => a = .new (.lst ((lenBy (cs.length : Int) cs qs).map D.int))) (fun _ _ => False) (m_lengths_by [.lst (cs.map D.int), .lst (qs.map tP)] M) := by
  have hfew := hc.few
  walk_at "fx"; unfold b_lengths_by
  walk_at "w"
  refine fx_use h ?_ (fun _ _ h => h.elim)
  rintro a M' _
  walk_at "w"
  rw [List.length_map]
  refine ⟨_, _, _, _, rfl, rgcD (by omega), ?_⟩
  refine w_forN (fun i s => ∃ (ds : List Pt) (e3 e4 e5 : Option Ent), ds.length ≤ 2 * i ∧ (∀ k, vlP ds k = fD (cs.length : Int) qs (qs.length - i) i k) ∧ s = ⟨[some (.fz (.lst (cs.map D.int))), some (.fz (.lst (qs.map tP))), some (.ow (.dK (dD ds))), e3, e4, e5, none, none], M'⟩) ⟨[], none, none, none, Nat.le_refl _, fun _ => rfl, rfl⟩ ?_ ?_
  · rintro i y s hi ⟨ds, e3, e4, e5, hdl, hvl, rfl⟩
    obtain ⟨hlt, rfl⟩ := rngC_get hi
    walk_at "w"
    refine ⟨_, _, rfl, rfl, ?_⟩
    rw [List.length_map, vl_dD, hvl, show ∀ o : Option Int, (o.map D.int).getD (.int 0) = .int (o.getD 0) from fun o => by cases o <;> rfl]
    generalize hv : (fD (cs.length : Int) qs (qs.length - i) i ((cs.length : Int) + ((qs.length : Int) - 1 + (i : Int) * -1))).getD 0 = v
    walk_at "w"
    refine w_ixL (d := tP (qs.getD (qs.length - 1 - i) (0, 0))) rfl rfl rfl ?_ ?_
    · rw [show (qs.length : Int) - 1 + (i : Int) * -1 = ((qs.length - 1 - i : Nat) : Int) by omega]
      exact atI_tP (by omega)
    have hq : ∃ q, qs.getD (qs.length - 1 - i) (0, 0) = q := ⟨_, rfl⟩
    obtain ⟨q, hq⟩ := hq
    rw [hq]
    walk_at "w"
    refine w_forN (fun j s => ∃ (ds : List Pt) (e5 : Option Ent), ds.length ≤ 2 * i + j ∧ (∀ k, vlP ds k = if (1 ≤ j ∧ k = q.1) ∨ (2 ≤ j ∧ k = q.2) then some (v + 1) else fD (cs.length : Int) qs (qs.length - i) i k) ∧ s = ⟨[some (.fz (.lst (cs.map D.int))), some (.fz (.lst (qs.map tP))), some (.ow (.dK (dD ds))), some (.fz (.int ((qs.length : Int) - 1 + (i : Int) * -1))), some (.fz (.int v)), e5, none, none], M'⟩) ⟨ds, _, by omega, fun k => by rw [hvl, if_neg (by omega)], rfl⟩ ?_ ?_
    · rintro j y s hj ⟨ds, e5, hdl, hvl, rfl⟩
      have hj2 : (j = 0 ∧ y = .int q.1) ∨ (j = 1 ∧ y = .int q.2) := by
        match j, hj with
        | 0, hj => exact .inl ⟨rfl, (Option.some.inj hj).symm⟩
        | 1, hj => exact .inr ⟨rfl, (Option.some.inj hj).symm⟩
        | j + 2, hj => cases hj
      rcases hj2 with ⟨rfl, rfl⟩ | ⟨rfl, rfl⟩
      · walk_at "w"
        refine so_setK rfl rfl (by rw [dD_len]; show _ < 16777216; omega) ?_
        rw [pu_dD]
        walk_at "ds"
        refine ⟨_, _, by have := puP_len ds q.1 (v + 1); omega, fun k => ?_, rfl⟩
        rw [puP_vl, hvl]
        by_cases h1 : k = q.1
        · rw [if_pos h1, if_pos (by omega)]
        · rw [if_neg h1, if_neg (by omega), if_neg (by omega)]
      · walk_at "w"
        refine so_setK rfl rfl (by rw [dD_len]; show _ < 16777216; omega) ?_
        rw [pu_dD]
        walk_at "ds"
        refine ⟨_, _, by have := puP_len ds q.2 (v + 1); omega, fun k => ?_, rfl⟩
        rw [puP_vl, hvl]
        by_cases h1 : k = q.2
        · rw [if_pos h1, if_pos (by omega)]
        · rw [if_neg h1]
          by_cases h2 : k = q.1
          · rw [if_pos (by omega), if_pos (by omega)]
          · rw [if_neg (by omega), if_neg (by omega)]
    · rintro s ⟨ds, e5, hdl, hvl, rfl⟩
      have hdl : ds.length ≤ 2 * i + 2 := hdl
      have hvl : ∀ k, vlP ds k = if (1 ≤ 2 ∧ k = q.1) ∨ (2 ≤ 2 ∧ k = q.2) then some (v + 1) else fD (cs.length : Int) qs (qs.length - i) i k := hvl
      refine ⟨ds, _, _, _, by omega, fun k => ?_, rfl⟩
      have e1 : qs.length - (i + 1) = qs.length - 1 - i := by omega
      have e2 : qs.length - 1 - i + 1 = qs.length - i := by omega
      rw [hvl, e1]
      show _ = if k = (qs.getD (qs.length - 1 - i) (0, 0)).1 ∨ k = (qs.getD (qs.length - 1 - i) (0, 0)).2 then some ((fD (cs.length : Int) qs (qs.length - 1 - i + 1) i ((cs.length : Int) + ((qs.length - 1 - i : Nat) : Int))).getD 0 + 1) else fD (cs.length : Int) qs (qs.length - 1 - i + 1) i k
      rw [hq, e2, show ((cs.length : Int) + ((qs.length - 1 - i : Nat) : Int)) = (cs.length : Int) + ((qs.length : Int) - 1 + (i : Int) * -1) by omega, hv]
      by_cases h1 : k = q.1 ∨ k = q.2
      · rw [if_pos (by omega), if_pos h1]
      · rw [if_neg (by omega), if_neg h1]
  · rintro s ⟨ds, e3, e4, e5, hdl, hvl, rfl⟩
    rw [rngC_len] at hdl hvl
    rw [Nat.sub_self] at hvl
    walk_at "w"
    rw [List.length_map]
    refine w_rng1I (by omega) ?_
    refine w_lcMap (fun d => match d with | .int k => .int ((fD (cs.length : Int) qs 0 qs.length k).getD 0) | d => d) ?_ ?_ ?_
    · rw [rng_len]; show _ ≤ 16777216; omega
    · intro x hx
      obtain ⟨k, hk⟩ := List.mem_iff_getElem?.mp hx
      obtain ⟨hk, rfl⟩ := rng_get hk
      walk_at "w"
      refine ⟨_, _, rfl, rfl, ?_⟩
      rw [vl_dD, hvl, show ∀ o : Option Int, (o.map D.int).getD (.int 0) = .int (o.getD 0) from fun o => by cases o <;> rfl]
      walk_at "w"
      exact ⟨rfl, rfl⟩
    have e : (rng 0 (cs.length : Int).toNat).map (fun d => match d with | .int k => .int ((fD (cs.length : Int) qs 0 qs.length k).getD 0) | d => d) = ((List.range cs.length).map fun (s : Nat) => (fD (cs.length : Int) qs 0 qs.length (s : Int)).getD 0).map D.int := by
      unfold rng
      rw [Int.toNat_natCast, List.map_map, List.map_map]
      refine List.map_congr_left fun s _ => ?_
      show D.int ((fD (cs.length : Int) qs 0 qs.length (0 + (s : Int))).getD 0) = _
      rw [Int.zero_add]; rfl
    rw [e]
    walk_at "ds"
    walk_at "w"
    refine w_eqG (eq_nil qs _) ?_
    walk_at "w"
    cases hqs : qs with
    | cons q qs' =>
      rw [← hqs]
      refine z_b0 (by rw [hqs]; rfl) ?_
      walk_at "w"
      show _ = _
      unfold lenBy
      rw [if_neg (by rw [hqs]; exact fun z => nomatch z)]
    | nil =>
      refine z_b1 (by rfl) ?_
      walk_at "w"
      refine fo_eq (first_parts_ok hc.few _) ?_
      walk_at "w"
      have ez : (List.range cs.length).map (fun (s : Nat) => (fD (cs.length : Int) [] 0 ([] : List Pt).length (s : Int)).getD 0) = fndL cs 0 := rfl
      rw [ez]
      refine w_forN (fun j s => ∃ e7 : Option Ent, s = ⟨[some (.fz (.lst (cs.map D.int))), some (.fz (.lst (([] : List Pt).map tP))), some (.ow (.dK (dD ds))), e3, e4, e5, some (.ow (.lst ((fndL cs j).map D.int))), e7], M'⟩) ⟨_, rfl⟩ ?_ ?_
      · rintro j y s hj ⟨e7, rfl⟩
        have hj' : ((dD (fpF 0 cs)).map fun p => kD p.1)[j]? = some y := hj
        unfold dD at hj'
        rw [List.map_map] at hj'
        obtain ⟨p, hp, rfl⟩ := map_get hj'
        have hm := fpF_mem (List.mem_of_getElem? hp)
        have hnx := fndL_next hp (by omega) (by omega)
        walk_at "w"
        refine so_setI (ns := fndL cs j) rfl (by omega) (by unfold fndL; rw [List.length_map, List.length_range]; omega) ?_
        rw [← hnx]
        walk_at "ds"
        exact ⟨_, rfl⟩
      · rintro s ⟨e7, rfl⟩
        walk_at "w"
        show _ = _
        unfold lenBy
        rw [if_pos rfl, show (dIt .keys (dD (fpF 0 cs))).length = (fpF 0 cs).length by show ((dD (fpF 0 cs)).map _).length = _; rw [List.length_map, dD_len], fndL_all]

/-! ### right papers are taken -/
theorem fp_none : ∀ (cs : List Int) (k : Int), (fpF k cs).length = 0 → (∀ c ∈ cs, 0 ≤ c) → cs.sum = 0
  | [], _, _, _ => rfl
  | c :: cs, k, h, hb => by
    unfold fpF at h
    have hc := hb c (List.mem_cons_self ..)
    split at h
    · simp at h
    · rw [List.sum_cons, fp_none cs (k + 1) h fun x hx => hb x (List.mem_cons_of_mem _ hx)]; omega
theorem chk_good {cs : List Int} (hc : Cts cs) {qs : List Pt} {b : Int} (hp : Pap cs qs b) (M : List Cn) : Fx (fun r _ => r = .val (.int b)) (fun _ _ => False) (m_check_paper [.lst (cs.map D.int), .lst (qs.map tP)] M) := by
  have hfl := fpF_len cs 0
  have hfew := hc.few
  have hql := hp.len
  have hst := (stP_ok (fpF_pk cs) hp.gd qs.length (Nat.le_refl _)).2
  have hb := hp.bits
  refine check_go hc (qs := qs) (by rw [List.length_map]; exact Nat.le_refl _) (by rw [List.length_map]; omega) (fun i hi => ?_) hp.gd (fun h s => ?_) (fun h z M' => ?_) (fun _ hne h M' => ?_) (fun _ h => absurd h (by omega)) (fun h => absurd h (by rw [List.length_map]; omega)) M
  · rw [List.getElem?_map, List.getD_eq_getElem?_getD, List.getElem?_eq_getElem hi]; rfl
  · have := eq_nil qs s
    rw [this]; cases qs <;> rfl
  · have hz : qs = [] := by cases qs with | nil => rfl | cons _ _ => cases z
    rw [if_pos hz] at hb
    rw [hb]
  · by_cases hz : qs = []
    · rw [if_pos hz] at hb
      subst hz
      rw [hb]
      by_cases h0 : (fpF 0 cs).length = 0
      · rw [fp_none cs 0 h0 fun c hc' => (hc.bd c hc').1]; rfl
      · exact absurd ⟨by have : ([] : List Pt).length = (fpF 0 cs).length - 1 := hql; have : 0 = (fpF 0 cs).length - 1 := this; omega, rfl⟩ hne
    · rw [if_neg hz] at hb
      rw [hb]
theorem eqPy_self {s : Stt} {a b : AI} {ns : List Int} (e1 : (look s a).bind (deref s.M) = some (.lst (ns.map D.int))) (e2 : (look s b).bind (deref s.M) = some (.lst (ns.map D.int))) : eqOf s a b = some true := (Y.eqOf_ints (ns := ns) (ms := ns) e1 e2 (.inl rfl) (.inl rfl)).trans (by rw [decide_eq_true rfl])
theorem fx_fo {P : AI → List Cn → Prop} {r : Fr} (h : Fx P (fun _ _ => False) r) : Fo P r := by
  cases r with
  | ok a M => exact h
  | er x M => exact h.elim
  | no => exact h.elim

/-! ### lengths, walked -/
theorem room_ok {ls : List Int} (hb : ∀ l ∈ ls, 0 ≤ l ∧ l ≤ 15) (hz : ls.length ≤ 1000) (M : List Cn) : m_room_of [.lst (ls.map D.int)] M = .ok (.val (.int (rmL ls))) M := by
  refine fo_ok (P := fun _ _ => True) ?_
  walk_at "f0"; unfold b_room_of
  walk_at "w"
  refine w_lcFil (fun d => match d with | .int i => decide (0 < i) | _ => false) (fun d => match d with | .int i => D.int (2 ^ (15 - i).toNat) | d => d) ?_ ?_ ?_
  · rw [List.length_map]; show _ ≤ 16777216; omega
  · intro x hx
    obtain ⟨l, hl, rfl⟩ := List.mem_map.mp hx
    have := hb l hl
    have sh : CShl 1 (15 - l) := cshl_1 (by omega) (by omega)
    walk_at "w"
    refine ⟨rfl, ?_⟩
    refine z_if (fun h => ?_) (fun h => ?_)
    · walk_at "w"
      rw [Int.one_mul]
      exact ⟨rfl, rfl⟩
    · rfl
  have e : (((ls.map D.int).filter (fun d => match d with | .int i => decide (0 < i) | _ => false)).map (fun d => match d with | .int i => D.int (2 ^ (15 - i).toNat) | d => d)) = ((ls.filter fun l => decide (0 < l)).map fun l => (2 : Int) ^ (15 - l).toNat).map D.int := by
    rw [List.filter_map, List.map_map, List.map_map]; rfl
  rw [e]
  walk_at "ds"
  walk_at "w"
  refine w_ints (ns := (ls.filter fun l => decide (0 < l)).map fun l => (2 : Int) ^ (15 - l).toNat) (d := .int (rmL ls)) rfl (intsD_map _) rfl ?_
  walk_at "w"
  exact ⟨rfl, rfl⟩
theorem fits_ok {ls : List Int} (hb : ∀ l ∈ ls, 0 ≤ l ∧ l ≤ 15) (hz : ls.length ≤ 1000) (M : List Cn) : m_fits [.lst (ls.map D.int)] M = .ok (.val (.bl (decide (rmL ls ≤ 32768)))) M := by
  refine fo_ok (P := fun _ _ => True) ?_
  have sh : CShl 1 15 := cshl_1 (by omega) (by omega)
  walk_at "f0"; unfold b_fits
  walk_at "w"
  refine fo_eq (room_ok hb hz M) ?_
  walk_at "w"
  exact ⟨rfl, rfl⟩
theorem check_lengths_ok {ls : List Int} (h1 : 1 ≤ ls.length) (h2 : ls.length ≤ 64) (hb : ∀ l ∈ ls, 0 ≤ l ∧ l ≤ 15) (hr : rmL ls ≤ 32768) (M : List Cn) : m_check_lengths [.lst (ls.map D.int)] M = .ok (.val .non) M := by
  refine fo_ok (P := fun _ _ => True) ?_
  walk_at "f0"; unfold b_check_lengths
  walk_at "w"
  refine fo_eq (is_list_ok h1 h2 hb M) ?_
  walk_at "w"
  refine fo_eq (fits_ok hb (by omega) M) ?_
  rw [decide_eq_true hr]
  walk_at "w"
  exact ⟨trivial, rfl⟩
theorem eq_nilI (is : List Int) (s : Stt) : eqOf s (.new (.lst (is.map D.int))) (.new (.lst [])) = some (decide (is = [])) := by
  refine eqOf_of (x := .list (is.map PyData.int)) (y := .list []) ?_ rfl (shaped_lints is) (by decide) ?_
  · show (D.pyL (is.map D.int)).map PyData.list = _
    rw [pyL_ints]; rfl
  · exact eqv_lints is []
theorem dot_zip : ∀ (cs ls : List Int), ((cs.zip ls).map fun p => p.1 * p.2).sum = dotL cs ls
  | [], _ => rfl
  | _ :: _, [] => rfl
  | c :: cs, l :: ls => by
    show (c * l :: (cs.zip ls).map fun p => p.1 * p.2).sum = c * l + dotL cs ls
    rw [List.sum_cons, dot_zip cs ls]
theorem zip_ints (cs ls : List Int) : zipL (cs.map D.int) (ls.map D.int) = (cs.zip ls).map tP := by
  unfold zipL
  rw [List.zip_map, List.map_map]; rfl
theorem cmul {a b : Int} (ha : 0 ≤ a ∧ a ≤ 1000) (hb : 0 ≤ b ∧ b ≤ 15) : CMul a b := by
  exact .inl ⟨by omega, by omega⟩

theorem least_lengths_ok {cs : List Int} (hc : Cts cs) (M : List Cn) : Fx (fun a _ => a = .new (.lst ((lenBy (cs.length : Int) cs (paper (cs.length : Int) (fpF 0 cs))).map D.int))) (fun _ _ => False) (m_least_lengths [.lst (cs.map D.int)] M) := by
  have hfl := fpF_len cs 0
  have hfew := hc.few
  obtain ⟨b, hp⟩ := least_pap cs
  walk_at "fx"; unfold b_least_lengths
  walk_at "w"
  refine fx_eq (pairs_of_ok hc M) ?_
  walk_at "w"
  refine fx_use (len_by_ok hc (by rw [paper_len]; omega) (chk_good hc hp M)) ?_ (fun _ _ h => h.elim)
  rintro _ M' rfl
  walk_at "w"
  exact rfl

/-! ### words, walked -/
def wrd (ls : List Int) (s : Nat) : D := if 0 < ls.getD s 0 then tP (ls.getD s 0, wordN ls (s : Int)) else .non
theorem range_setD {n i : Nat} {f : Nat → D} {v : D} : ((List.range n).map f).set i v = (List.range n).map fun s => if s = i then v else f s := by
  refine List.ext_getElem (by simp) fun k h1 h2 => ?_
  rw [List.getElem_set]
  simp only [List.getElem_map, List.getElem_range]
  by_cases h : i = k
  · rw [if_pos h, if_pos h.symm]
  · rw [if_neg h, if_neg (fun z => h z.symm)]
theorem en_pairs (ls : List Int) : (enumL (ls.map D.int)).map (fun d => match d with | .tup [a, b] => D.tup [b, a] | d => d) = (enP ls).map tP := by
  refine List.ext_getElem? fun i => ?_
  rw [List.getElem?_map]
  by_cases hi : i < ls.length
  · have h1 : (enumL (ls.map D.int))[i]? = some (.tup [.int (i : Nat), .int ls[i]]) := by
      cases q : (enumL (ls.map D.int))[i]? with
      | none => rw [List.getElem?_eq_none_iff, enum_len, List.length_map] at q; omega
      | some d =>
        obtain ⟨x, hx, rfl⟩ := enum_get q
        rw [List.getElem?_map, List.getElem?_eq_getElem hi] at hx
        rw [← Option.some.inj hx]
    rw [h1]
    unfold enP
    rw [List.map_map, List.getElem?_map, List.getElem?_range hi]
    show some (D.tup [.int ls[i], .int (i : Nat)]) = some (tP (ls.getD i 0, (i : Int)))
    rw [List.getD_eq_getElem?_getD, List.getElem?_eq_getElem hi]; rfl
  · rw [List.getElem?_eq_none_iff.mpr (by rw [enum_len, List.length_map]; omega), List.getElem?_eq_none_iff.mpr (by unfold enP; simp; omega)]; rfl
theorem words_ok {ls : List Int} (h1 : 1 ≤ ls.length) (h2 : ls.length ≤ 64) (h : Ln ls) (M : List Cn) : m_words_of [.lst (ls.map D.int)] M = .ok (.new (.lst ((List.range ls.length).map (wrd ls)))) M := by
  refine fx_ok ?_
  walk_at "fx"; unfold b_words_of
  walk_at "w"
  refine fx_eq (check_lengths_ok h1 h2 h.bd h.room M) ?_
  walk_at "w"
  refine w_lcMap (fun _ => .non) ?_ ?_ ?_
  · rw [List.length_map]; show _ ≤ 16777216; omega
  · intro x hx
    walk_at "w"
    exact ⟨rfl, rfl⟩
  walk_at "w"
  refine w_lcMap (fun d => match d with | .tup [a, b] => D.tup [b, a] | d => d) ?_ ?_ ?_
  · rw [enum_len, List.length_map]; show _ ≤ 16777216; omega
  · intro x hx
    obtain ⟨i, hi⟩ := List.mem_iff_getElem?.mp hx
    obtain ⟨y, hy, rfl⟩ := enum_get hi
    walk_at "w"
    exact ⟨rfl, rfl⟩
  rw [en_pairs]
  walk_at "ds"
  walk_at "w"
  refine w_sort rfl (sortOk_pairs _) ?_
  rw [sort_pairs]
  have hstr := sort_strict (enP ls) (enP_nd ls)
  have hprm := lePp_perm (enP ls)
  generalize (enP ls).mergeSort lePp = P at *
  have hPl : P.length = ls.length := by rw [hprm.length_eq]; unfold enP; simp
  have hPm : ∀ p ∈ P, 0 ≤ p.2 ∧ p.2 < ls.length ∧ p.1 = ls.getD p.2.toNat 0 := fun p hp => enP_mem.mp (hprm.mem_iff.mp hp)
  have hroom : sumQ P (fun _ => true) ≤ 32768 := by rw [sumQ_perm hprm, ← rm_sumQ]; exact h.room
  walk_at "w"
  refine ⟨_, rfl, ?_⟩
  refine w_forN (fun i s => ∃ (nu la : Int) (e4 e5 : Option Ent), ((la = 0 ∧ nu = 0 ∧ sumQ (P.take i) (fun _ => true) = 0) ∨ (0 < la ∧ la ≤ 15 ∧ 0 ≤ nu ∧ (nu + 1) * (2 : Int) ^ (15 - la).toNat = sumQ (P.take i) (fun _ => true) ∧ ∀ j p, i ≤ j → P[j]? = some p → la ≤ p.1)) ∧ s = ⟨[some (.fz (.lst (ls.map D.int))), some (.ow (.lst ((List.range ls.length).map fun s => if (ls.getD s 0, (s : Int)) ∈ P.take i then wrd ls s else .non))), some (.fz (.int nu)), some (.fz (.int la)), e4, e5], M⟩) ⟨0, 0, none, none, .inl ⟨rfl, rfl, rfl⟩, ?_⟩ ?_ ?_
  · have e : (ls.map D.int).map (fun _ => D.non) = (List.range ls.length).map fun s => if (ls.getD s 0, (s : Int)) ∈ P.take 0 then wrd ls s else .non := by
      refine List.ext_getElem (by simp) fun i q1 q2 => ?_
      simp
    rw [← e]; rfl
  · rintro i y s hi ⟨nu, la, e4, e5, hst, rfl⟩
    obtain ⟨p, hp, rfl⟩ := map_get hi
    obtain ⟨hil, hie⟩ := List.getElem?_eq_some_iff.mp hp
    obtain ⟨p0, p1, p2⟩ := hPm p (List.mem_of_getElem? hp)
    have htk : P.take (i + 1) = P.take i ++ [p] := by rw [List.take_add_one, hp]; rfl
    have hsm : sumQ (P.take (i + 1)) (fun _ => true) = sumQ (P.take i) (fun _ => true) + (if 0 < p.1 then tw p else 0) := by
      rw [htk, sumQ_app, sumQ_cons]
      show _ + ((if 0 < p.1 ∧ true = true then tw p else 0) + 0) = _
      by_cases q : 0 < p.1
      · rw [if_pos q, if_pos ⟨q, rfl⟩]; omega
      · rw [if_neg q, if_neg (fun z => q z.1)]; omega
    have hpl : sumQ (P.take i) (fun _ => true) = plc ls p.2 := by
      rw [take_sum hstr hp]
      unfold plc
      rw [sumQ_perm hprm, ← p2]
    have hb := h.at p0 p1
    have hmono : ∀ j q, i + 1 ≤ j → P[j]? = some q → p.1 ≤ q.1 := fun j q hj hq => by
      obtain ⟨hjl, hje⟩ := List.getElem?_eq_some_iff.mp hq
      have := List.pairwise_iff_getElem.mp hstr i j hil hjl (by omega)
      rw [hie, hje] at this
      have := of_decide_eq_true this
      omega
    have hnx : p.1 ≤ 0 → ((List.range ls.length).map fun s => if (ls.getD s 0, (s : Int)) ∈ P.take (i + 1) then wrd ls s else D.non) = (List.range ls.length).map fun s => if (ls.getD s 0, (s : Int)) ∈ P.take i then wrd ls s else D.non := fun hz => by
      refine List.map_congr_left fun s hs => ?_
      rw [htk]
      by_cases q : (ls.getD s 0, (s : Int)) ∈ P.take i
      · rw [if_pos q, if_pos (List.mem_append_left _ q)]
      · rw [if_neg q]
        by_cases q2 : (ls.getD s 0, (s : Int)) = p
        · rw [if_pos (List.mem_append_right _ (List.mem_singleton.mpr q2))]
          unfold wrd
          rw [if_neg (by have : ls.getD s 0 = p.1 := congrArg Prod.fst q2; omega)]
        · rw [if_neg (fun z => by
            rcases List.mem_append.mp z with z | z
            · exact q z
            · exact q2 (List.mem_singleton.mp z))]
    have hset : ∀ n : Int, 0 < p.1 → n = wordN ls p.2 → ((List.range ls.length).map fun s => if (ls.getD s 0, (s : Int)) ∈ P.take i then wrd ls s else D.non).set p.2.toNat (tP (p.1, n)) = (List.range ls.length).map fun s => if (ls.getD s 0, (s : Int)) ∈ P.take (i + 1) then wrd ls s else D.non := fun n hpos en => by
      rw [range_setD]
      refine List.map_congr_left fun s hs => ?_
      rw [htk]
      by_cases q : s = p.2.toNat
      · have ep : (ls.getD s 0, (s : Int)) = p := Prod.ext (by show ls.getD s 0 = p.1; rw [p2, q]) (by show (s : Int) = p.2; omega)
        rw [if_pos q, if_pos (List.mem_append_right _ (List.mem_singleton.mpr ep))]
        unfold wrd
        have e1 : ls.getD s 0 = p.1 := congrArg Prod.fst ep
        have e2 : (s : Int) = p.2 := congrArg Prod.snd ep
        rw [e1, if_pos hpos, e2, en]
      · have q2 : (ls.getD s 0, (s : Int)) ≠ p := fun z => q (by have : (s : Int) = p.2 := congrArg Prod.snd z; omega)
        rw [if_neg q]
        by_cases q3 : (ls.getD s 0, (s : Int)) ∈ P.take i
        · rw [if_pos q3, if_pos (List.mem_append_left _ q3)]
        · rw [if_neg q3, if_neg (fun z => by
            rcases List.mem_append.mp z with z | z
            · exact q3 z
            · exact q2 (List.mem_singleton.mp z))]
    walk_at "w"
    refine z_if (fun hpos => ?_) (fun hpos => ?_)
    · rw [if_pos hpos] at hsm
      have hwm := plc_mul h p0 p1 (by rw [← p2]; exact hpos)
      rw [← p2, ← hpl] at hwm
      obtain ⟨hwm, hwn⟩ := hwm
      have hpp : (0 : Int) < 2 ^ (15 - p.1).toNat := Int.pow_pos (by decide)
      have hfin : (wordN ls p.2 + 1) * (2 : Int) ^ (15 - p.1).toNat = sumQ (P.take (i + 1)) fun _ => true := by
        rw [hsm, hwm, Int.add_mul, Int.one_mul]; rfl
      walk_at "w"
      rcases hst with ⟨rfl, rfl, hz⟩ | ⟨hl0, hl1, hn0, hsum, hle⟩
      · have hw0 : (0 : Int) = wordN ls p.2 := by
          rw [hz] at hwm
          rcases Int.mul_eq_zero.mp hwm.symm with e | e
          · exact e.symm
          · omega
        walk_at "w"
        refine so_setLst (l := (List.range ls.length).map fun s => if (ls.getD s 0, (s : Int)) ∈ P.take i then wrd ls s else .non) rfl (ixN_nn p0 (by simpa using p1)) ?_
        rw [show D.tup [.int p.1, .int 0] = tP (p.1, 0) from rfl, hset 0 hpos hw0]
        walk_at "ds"
        walk_at "w"
        exact ⟨0, p.1, _, _, .inr ⟨hpos, by omega, by decide, by rw [hw0]; exact hfin, hmono⟩, rfl⟩
      · have hlp := hle i p (Nat.le_refl _) hp
        have hnum : (nu + 1) * (2 : Int) ^ (p.1 - la).toNat = wordN ls p.2 := by
          have : ((nu + 1) * (2 : Int) ^ (p.1 - la).toNat) * 2 ^ (15 - p.1).toNat = wordN ls p.2 * 2 ^ (15 - p.1).toNat := by
            rw [Int.mul_assoc, ← Int.pow_add, show (p.1 - la).toNat + (15 - p.1).toNat = (15 - la).toNat by omega, hsum, hwm]
          exact Int.eq_of_mul_eq_mul_right (by omega) this
        have hnb : nu + 1 ≤ 32768 := by
          have h15 : sumQ (P.take i) (fun _ => true) ≤ 32768 := by
            refine Int.le_trans ?_ hroom
            conv => rhs; rw [← List.take_append_drop i P, sumQ_app]
            have := sumQ_nn (P.drop i) fun _ => true
            omega
          have hp1 : (1 : Int) ≤ 2 ^ (15 - la).toNat := Int.add_one_le_of_lt (Int.pow_pos (by decide))
          have : (nu + 1) * 1 ≤ (nu + 1) * 2 ^ (15 - la).toNat := Int.mul_le_mul_of_nonneg_left hp1 (by omega)
          omega
        have sh : CShl (nu + 1) (p.1 - la) := cshl_N (m := 17) (by have : (2 : Nat) ^ 17 = 131072 := rfl; omega) (by decide) (by omega) (by omega)
        walk_at "w"
        refine so_setLst (l := (List.range ls.length).map fun s => if (ls.getD s 0, (s : Int)) ∈ P.take i then wrd ls s else .non) rfl (ixN_nn p0 (by simpa using p1)) ?_
        rw [hnum, show D.tup [.int p.1, .int (wordN ls p.2)] = tP (p.1, wordN ls p.2) from rfl, hset _ hpos rfl]
        walk_at "ds"
        walk_at "w"
        exact ⟨_, p.1, _, _, .inr ⟨hpos, by omega, hwn, hfin, hmono⟩, rfl⟩
    · rw [if_neg hpos, Int.add_zero] at hsm
      walk_at "w"
      rw [← hnx (by omega)]
      refine ⟨nu, la, _, _, ?_, rfl⟩
      rcases hst with ⟨rfl, rfl, hz⟩ | ⟨hl0, hl1, hn0, hsum, hle⟩
      · exact .inl ⟨rfl, rfl, by rw [hsm]; exact hz⟩
      · exact .inr ⟨hl0, hl1, hn0, by rw [hsm]; exact hsum, fun j q hj hq => hle j q (by omega) hq⟩
  · rintro s ⟨nu, la, e4, e5, hst, rfl⟩
    rw [List.length_map, List.take_length]
    walk_at "w"
    refine ⟨?_, rfl⟩
    congr 2
    refine List.map_congr_left fun s hs => ?_
    have hs := List.mem_range.mp hs
    rw [if_pos (hprm.mem_iff.mpr (enP_mem.mpr ⟨by show (0 : Int) ≤ (s : Int); omega, by show (s : Int) < _; omega, by show ls.getD s 0 = ls.getD (s : Int).toNat 0; rw [Int.toNat_natCast]⟩))]

/-! ### bits, plain -/
def b2i (b : Bool) : Int := if b then 1 else 0
def val : List Bool → Int
  | [] => 0
  | b :: bs => b2i b * 2 ^ bs.length + val bs
theorem val_cat : ∀ (a b : List Bool), val (a ++ b) = val a * 2 ^ b.length + val b
  | [], b => by show val b = 0 * _ + val b; simp
  | x :: a, b => by
    show b2i x * 2 ^ (a ++ b).length + val (a ++ b) = (b2i x * 2 ^ a.length + val a) * 2 ^ b.length + val b
    rw [val_cat a b, List.length_append, Int.pow_add, Int.add_mul, Int.mul_assoc]; omega
theorem val_snoc (a : List Bool) (b : Bool) : val (a ++ [b]) = 2 * val a + b2i b := by
  rw [val_cat]; show val a * 2 ^ 1 + (b2i b * 2 ^ 0 + 0) = _; simp; omega
theorem b2i_bd (b : Bool) : 0 ≤ b2i b ∧ b2i b ≤ 1 := by cases b <;> decide
theorem val_bd : ∀ a : List Bool, 0 ≤ val a ∧ val a < 2 ^ a.length
  | [] => by decide
  | b :: a => by
    have h := val_bd a
    have h2 := b2i_bd b
    show 0 ≤ b2i b * 2 ^ a.length + val a ∧ b2i b * 2 ^ a.length + val a < 2 ^ (a.length + 1)
    have hp : (0 : Int) < 2 ^ a.length := Int.pow_pos (by decide)
    rw [Int.pow_succ]
    cases b
    · show 0 ≤ 0 * _ + _ ∧ 0 * _ + _ < _; rw [Int.zero_mul]; omega
    · show 0 ≤ 1 * _ + _ ∧ 1 * _ + _ < _; rw [Int.one_mul]; omega
theorem val_zero (n : Nat) : val (List.replicate n false) = 0 := by
  induction n with
  | zero => rfl
  | succ n ih => show b2i false * _ + val (List.replicate n false) = 0; rw [ih]; show 0 * _ + 0 = 0; rw [Int.zero_mul]; rfl
/-- the bits of a number, the highest first -/
def bitsN (x : Nat) : Nat → List Bool
  | 0 => []
  | n + 1 => x.testBit n :: bitsN x n
theorem bitsN_len (x n : Nat) : (bitsN x n).length = n := by
  induction n with
  | zero => rfl
  | succ n ih => show (bitsN x n).length + 1 = _; rw [ih]
theorem val_bitsN (x n : Nat) : val (bitsN x n) = ((x % 2 ^ n : Nat) : Int) := by
  induction n with
  | zero => show (0 : Int) = _; rw [Nat.pow_zero, Nat.mod_one]; rfl
  | succ n ih =>
    show b2i (x.testBit n) * 2 ^ (bitsN x n).length + val (bitsN x n) = _
    rw [ih, bitsN_len]
    have h := Nat.mod_pow_succ (b := 2) (k := n) (x := x)
    rw [h]
    rw [Nat.testBit_eq_decide_div_mod_eq]
    have h2 : x / 2 ^ n % 2 = 0 ∨ x / 2 ^ n % 2 = 1 := by omega
    rcases h2 with h2 | h2
    · rw [h2]; show 0 * _ + _ = _; rw [Int.zero_mul]; simp
    · rw [h2]; show 1 * (2 ^ n : Int) + _ = _; rw [Int.one_mul]; push_cast; omega
theorem bit_and {x t : Nat} : Builtin.bitAnd ((x : Int) / 2 ^ t) 1 = b2i (x.testBit t) := by
  have e : ((x : Int) / 2 ^ t) = ((x / 2 ^ t : Nat) : Int) := by push_cast; rfl
  rw [e, show (1 : Int) = ((1 : Nat) : Int) from rfl, and_nat, Nat.and_one_is_mod, Nat.testBit_eq_decide_div_mod_eq]
  have h2 : x / 2 ^ t % 2 = 0 ∨ x / 2 ^ t % 2 = 1 := by omega
  rcases h2 with h2 | h2 <;> rw [h2] <;> rfl
/-- bits by the number's place: x.testBit (n - 1 - i) -/
theorem bitsN_at {x n i : Nat} (h : i < n) : (bitsN x n)[i]? = some (x.testBit (n - 1 - i)) := by
  induction n generalizing i with
  | zero => omega
  | succ n ih =>
    cases i with
    | zero => rfl
    | succ i =>
      show (bitsN x n)[i]? = _
      rw [ih (by omega)]
      congr 2; omega
/-- eight by eight -/
def byL : List Bool → List Int
  | a :: b :: c :: d :: e :: f :: g :: h :: r => val [a, b, c, d, e, f, g, h] :: byL r
  | _ => []
/-- what is left of eight by eight -/
def rsL : List Bool → List Bool
  | _ :: _ :: _ :: _ :: _ :: _ :: _ :: _ :: r => rsL r
  | r => r
theorem cut8 {B : List Bool} (h : 8 ≤ B.length) : ∃ a b c d e f g i r, B = a :: b :: c :: d :: e :: f :: g :: i :: r := by
  match B, h with
  | a :: b :: c :: d :: e :: f :: g :: i :: r, _ => exact ⟨a, b, c, d, e, f, g, i, r, rfl⟩
theorem rsL_small {B : List Bool} (h : B.length < 8) : rsL B = B ∧ byL B = [] := by
  match B, h with
  | [], _ => exact ⟨rfl, rfl⟩
  | [_], _ => exact ⟨rfl, rfl⟩
  | [_, _], _ => exact ⟨rfl, rfl⟩
  | [_, _, _], _ => exact ⟨rfl, rfl⟩
  | [_, _, _, _], _ => exact ⟨rfl, rfl⟩
  | [_, _, _, _, _], _ => exact ⟨rfl, rfl⟩
  | [_, _, _, _, _, _], _ => exact ⟨rfl, rfl⟩
  | [_, _, _, _, _, _, _], _ => exact ⟨rfl, rfl⟩
/-- one way down, eight by eight -/
theorem ind8 {P : List Bool → Prop} (h0 : ∀ B, B.length < 8 → P B) (h8 : ∀ a b c d e f g i r, P r → P (a :: b :: c :: d :: e :: f :: g :: i :: r)) : ∀ B, P B := by
  intro B
  generalize hn : B.length = n
  induction n using Nat.strongRecOn generalizing B with
  | ind n ih =>
    by_cases h : B.length < 8
    · exact h0 B h
    · obtain ⟨a, b, c, d, e, f, g, i, r, rfl⟩ := cut8 (B := B) (by omega)
      exact h8 _ _ _ _ _ _ _ _ _ (ih r.length (by subst hn; simp; omega) r rfl)
theorem rsL_len (B : List Bool) : (rsL B).length = B.length % 8 ∧ (byL B).length = B.length / 8 := by
  refine ind8 (P := fun B => (rsL B).length = B.length % 8 ∧ (byL B).length = B.length / 8) (fun B h => ?_) (fun a b c d e f g i r h => ?_) B
  · obtain ⟨e1, e2⟩ := rsL_small h
    rw [e1, e2]; exact ⟨by omega, by simp; omega⟩
  · show (rsL r).length = (r.length + 8) % 8 ∧ (byL r).length + 1 = (r.length + 8) / 8
    omega
/-- a bit is put behind -/
theorem put_bit (B : List Bool) (x : Bool) : if (B.length + 1) % 8 = 0 then byL (B ++ [x]) = byL B ++ [2 * val (rsL B) + b2i x] ∧ rsL (B ++ [x]) = [] else byL (B ++ [x]) = byL B ∧ rsL (B ++ [x]) = rsL B ++ [x] := by
  refine ind8 (P := fun B => if (B.length + 1) % 8 = 0 then byL (B ++ [x]) = byL B ++ [2 * val (rsL B) + b2i x] ∧ rsL (B ++ [x]) = [] else byL (B ++ [x]) = byL B ∧ rsL (B ++ [x]) = rsL B ++ [x]) (fun B h => ?_) (fun a b c d e f g i r h => ?_) B
  · obtain ⟨e1, e2⟩ := rsL_small h
    by_cases h7 : (B.length + 1) % 8 = 0
    · rw [if_pos h7, e1, e2]
      have h7 : B.length = 7 := by omega
      match B, h7 with
      | [a, b, c, d, e, f, g], _ =>
        refine ⟨?_, rfl⟩
        show [val ([a, b, c, d, e, f, g] ++ [x])] = [2 * val [a, b, c, d, e, f, g] + b2i x]
        rw [val_snoc]
    · rw [if_neg h7, e1, e2]
      obtain ⟨e3, e4⟩ := rsL_small (B := B ++ [x]) (by rw [List.length_append]; show B.length + 1 < 8; omega)
      rw [e3, e4]; exact ⟨rfl, rfl⟩
  · by_cases h7 : ((a :: b :: c :: d :: e :: f :: g :: i :: r).length + 1) % 8 = 0
    · have h7' : (r.length + 1) % 8 = 0 := by simp at h7; omega
      rw [if_pos h7'] at h
      rw [if_pos h7]
      exact ⟨by show _ :: byL (r ++ [x]) = _ :: (byL r ++ _); rw [h.1]; rfl, h.2⟩
    · have h7' : ¬ (r.length + 1) % 8 = 0 := by simp at h7; omega
      rw [if_neg h7'] at h
      rw [if_neg h7]
      exact ⟨by show _ :: byL (r ++ [x]) = _ :: byL r; rw [h.1], h.2⟩
/-- all bits of bytes -/
def bitsOf (bs : List Int) : List Bool := (bs.map fun b => bitsN b.toNat 8).flatten
theorem bitsOf_cat (a b : List Int) : bitsOf (a ++ b) = bitsOf a ++ bitsOf b := by unfold bitsOf; rw [List.map_append, List.flatten_append]
theorem bitsOf_len (bs : List Int) : (bitsOf bs).length = 8 * bs.length := by
  induction bs with
  | nil => rfl
  | cons b bs ih => show (bitsN b.toNat 8 ++ bitsOf bs).length = _; rw [List.length_append, bitsN_len, ih, List.length_cons]; omega
theorem bits_val8 : ∀ a b c d e f g h : Bool, bitsN (val [a, b, c, d, e, f, g, h]).toNat 8 = [a, b, c, d, e, f, g, h] := by decide +kernel
theorem bitsOf_byL (B : List Bool) (h8 : B.length % 8 = 0) : bitsOf (byL B) = B := by
  revert h8
  refine ind8 (P := fun B => B.length % 8 = 0 → bitsOf (byL B) = B) (fun B h h8 => ?_) (fun a b c d e f g i r h h8 => ?_) B
  · have : B.length = 0 := by omega
    rw [List.length_eq_zero_iff.mp this]; rfl
  · show bitsN (val [a, b, c, d, e, f, g, i]).toNat 8 ++ bitsOf (byL r) = _
    rw [bits_val8, h (by simp at h8; omega)]; rfl
theorem byL_bd (B : List Bool) : ∀ x ∈ byL B, 0 ≤ x ∧ x ≤ 255 := by
  refine ind8 (P := fun B => ∀ x ∈ byL B, 0 ≤ x ∧ x ≤ 255) (fun B h x hx => ?_) (fun a b c d e f g i r h x hx => ?_) B
  · rw [(rsL_small h).2] at hx; cases hx
  · rcases List.mem_cons.mp (show x ∈ val [a, b, c, d, e, f, g, i] :: byL r from hx) with rfl | hx
    · have := val_bd [a, b, c, d, e, f, g, i]
      have h256 : (2 : Int) ^ ([a, b, c, d, e, f, g, i] : List Bool).length = 256 := rfl
      omega
    · exact h x hx
/-- a bit of bytes, by its place -/
theorem bitsOf_at : ∀ {bs : List Int} {p : Nat}, p < 8 * bs.length → (bitsOf bs)[p]? = some ((bs.getD (p / 8) 0).toNat.testBit (7 - p % 8))
  | [], p, h => by simp at h
  | b :: bs, p, h => by
    show (bitsN b.toNat 8 ++ bitsOf bs)[p]? = _
    by_cases hp : p < 8
    · rw [List.getElem?_append_left (by rw [bitsN_len]; exact hp), bitsN_at hp, Nat.div_eq_of_lt hp, Nat.mod_eq_of_lt hp]; rfl
    · rw [List.getElem?_append_right (by rw [bitsN_len]; omega), bitsN_len, bitsOf_at (by rw [List.length_cons] at h; omega)]
      rw [show p / 8 = (p - 8) / 8 + 1 by omega, show p % 8 = (p - 8) % 8 by omega]; rfl

/-! ### two cells of the memory -/
def st2 (M : List Cn) (k j : Nat) (a l : Cn) : List Cn := (M.set k a).set j l
structure Two (M : List Cn) (k j : Nat) : Prop where
  hk : k < M.length
  hj : j < M.length
  ne : k ≠ j
section
variable {M : List Cn} {k j : Nat} {a l a' l' : Cn}
theorem st2_len : (st2 M k j a l).length = M.length := by unfold st2; rw [List.length_set, List.length_set]
theorem Two.st (h : Two M k j) : Two (st2 M k j a l) k j := ⟨by rw [st2_len]; exact h.hk, by rw [st2_len]; exact h.hj, h.ne⟩
theorem Two.gk (h : Two M k j) : (st2 M k j a l)[k]? = some a := by
  unfold st2; rw [List.getElem?_set_ne (fun z => h.ne z.symm), List.getElem?_set_self h.hk]
theorem Two.gj (h : Two M k j) : (st2 M k j a l)[j]? = some l := by
  unfold st2; rw [List.getElem?_set_self (by rw [List.length_set]; exact h.hj)]
theorem st2_o {i : Nat} (hk : i ≠ k) (hj : i ≠ j) : (st2 M k j a l)[i]? = M[i]? := by
  unfold st2; rw [List.getElem?_set_ne (fun z => hj z.symm), List.getElem?_set_ne (fun z => hk z.symm)]
theorem Two.sk (h : Two M k j) : (st2 M k j a l).set k a' = st2 M k j a' l := by
  unfold st2; rw [List.set_comm _ _ (fun z => h.ne z.symm), List.set_set]
theorem Two.sj (h : Two M k j) : (st2 M k j a l).set j l' = st2 M k j a l' := by unfold st2; rw [List.set_set]
theorem Two.ss (h : Two M k j) : st2 (st2 M k j a l) k j a' l' = st2 M k j a' l' := by
  show ((st2 M k j a l).set k a').set j l' = _
  rw [h.sk, h.sj]
theorem Two.self (h : Two M k j) (ha : M[k]? = some a) (hl : M[j]? = some l) : st2 M k j a l = M := by
  unfold st2
  have e1 : M.set k a = M := by
    obtain ⟨hk, e⟩ := List.getElem?_eq_some_iff.mp ha
    rw [← e, List.set_getElem_self]
  rw [e1]
  obtain ⟨hj, e⟩ := List.getElem?_eq_some_iff.mp hl
  rw [← e, List.set_getElem_self]
end
theorem fo_fx {P : AI → List Cn → Prop} {E : Exn → List Cn → Prop} {r : Fr} (h : Fo P r) : Fx P E r := by
  cases r with
  | ok a M => exact h
  | er x M => exact h.elim
  | no => exact h.elim
theorem viewL_cid {s : Stt} {k : Nat} {l : List D} (h : s.M[k]? = some (.lst l)) : viewL s (.val (.cid k)) = some l := by
  show s.M[k]?.bind Cn.aL = some l; rw [h]; rfl
theorem viewD_cid {s : Stt} {k : Nat} {l : List D} (h : s.M[k]? = some (.lst l)) : viewD s (.val (.cid k)) = none := by
  show s.M[k]?.bind Cn.aK = none; rw [h]; rfl
theorem lenD_cid {M : List Cn} {k : Nat} {l : List D} (h : M[k]? = some (.lst l)) : lenD M (.cid k) = some l.length := by
  show M[k]?.bind _ = _; rw [h]; rfl
theorem getC_cid {s : Stt} {k : Nat} {c : Cn} (h : s.M[k]? = some c) : getC s (.val (.cid k)) = some c := h
theorem app_at (M : List Cn) (a : Cn) (r : List Cn) : (M ++ a :: r)[M.length]? = some a := by rw [List.getElem?_append_right (Nat.le_refl _), Nat.sub_self]; rfl
theorem app_at1 (M : List Cn) (a b : Cn) (r : List Cn) : (M ++ a :: b :: r)[M.length + 1]? = some b := by rw [List.getElem?_append_right (by omega), show M.length + 1 - M.length = 1 by omega]; rfl
theorem app_set (M : List Cn) (a b : Cn) (r : List Cn) : (M ++ a :: r).set M.length b = M ++ b :: r := by rw [List.set_append_right _ _ (Nat.le_refl _), Nat.sub_self]; rfl
theorem app_two (M : List Cn) (a b : Cn) : Two (M ++ [a, b]) M.length (M.length + 1) := ⟨by simp, by simp, by omega⟩
theorem app_st2 (M : List Cn) (a b a' b' : Cn) : st2 (M ++ [a, b]) M.length (M.length + 1) a' b' = M ++ [a', b'] := by
  unfold st2
  rw [app_set, List.set_append_right _ _ (by omega), show M.length + 1 - M.length = 1 by omega]; rfl

/-! ### the writer, anywhere -/
abbrev wfd (f b m : D) : List (Str × D) := [("full", f), ("begun", b), ("many", m)]
abbrev oW (j : Nat) (B : List Bool) : Cn := .obj 4 (wfd (.cid j) (.int (val (rsL B))) (.int (B.length : Int)))
abbrev lW (B : List Bool) : Cn := .lst ((byL B).map D.int)
theorem pb {f b m d : D} : putD "begun" d (wfd f b m) = wfd f d m := rfl
theorem pm {f b m d : D} : putD "many" d (wfd f b m) = wfd f b d := rfl
theorem is_wholeB (i : Int) (M : List Cn) : m_is_whole_bits [.int i] M = .ok (.val (.bl true)) M := by
  refine fo_ok (P := fun _ _ => True) ?_
  walk_at "f0"; unfold b_is_whole_bits
  walk_at "w"
  refine w_isi (b := true) (by exact rfl) (by exact rfl) (by decide +kernel) ?_
  walk_at "w"
  refine w_isi (b := false) (by exact rfl) (by exact rfl) (by decide +kernel) ?_
  walk_at "w"
  exact ⟨rfl, rfl⟩
theorem refuse_ok {b : Bool} (h : b = true) (M : List Cn) : m_refuse_unless [.bl b] M = .ok (.val .non) M := by
  subst h
  refine fx_ok ?_
  walk_at "fx"; unfold b_refuse_unless
  walk_at "w"
  exact ⟨trivial, rfl⟩
theorem winit_ok (M : List Cn) : m_Writer_init [.cid M.length] (M ++ [.obj 4 []]) = .ok (.val .non) (M ++ [oW (M.length + 1) [], lW []]) := by
  refine fo_ok (P := fun _ _ => True) ?_
  walk_at "f0"; unfold b_Writer_init
  walk_at "w"
  rw [List.append_assoc]
  refine ⟨_, _, _, objAt_of (app_at M _ _), ⟨rfl, by simp⟩, ?_⟩
  dsimp only []
  show Ws _ _ (mSeq _ _ ⟨_, (M ++ Cn.obj 4 [] :: [Cn.lst []]).set M.length _⟩)
  rw [app_set, show (M ++ [Cn.obj 4 []]).length = M.length + 1 by simp]
  walk_at "w"
  refine ⟨_, _, [("full", .cid (M.length + 1))], objAt_of (app_at M _ _), ⟨rfl, by show 1 < 1000; decide⟩, ?_⟩
  dsimp only []
  rw [app_set]
  walk_at "w"
  refine ⟨_, _, [("full", .cid (M.length + 1)), ("begun", .int 0)], objAt_of (app_at M _ _), ⟨rfl, by show 2 < 1000; decide⟩, ?_⟩
  dsimp only []
  rw [app_set]
  exact ⟨trivial, rfl⟩
theorem pow_int (m : Nat) : (1 : Int) * 2 ^ (m : Int).toNat = 2 ^ m := by rw [Int.one_mul, Int.toNat_natCast]
theorem wput_ok {M : List Cn} {k j : Nat} (h2 : Two M k j) {B : List Bool} {x m : Nat} (hm : m ≤ 64) (hx : x < 2 ^ m) (hB : B.length ≤ 100000) : m_Writer_put [.cid k, .int (x : Int), .int (m : Int)] (st2 M k j (oW j B) (lW B)) = .ok (.val .non) (st2 M k j (oW j (B ++ bitsN x m)) (lW (B ++ bitsN x m))) := by
  have sh : CShl 1 (m : Int) := cshl_1 (by omega) (by omega)
  have hx' : (x : Int) < 1 * 2 ^ (m : Int).toNat := by rw [pow_int]; exact_mod_cast hx
  refine fx_ok ?_
  walk_at "fx"; unfold b_Writer_put
  walk_at "w"
  refine fo_eq (is_wholeB _ _) ?_
  walk_at "w"
  refine fx_eq (refuse_ok (decide_eq_true (show (m : Int) ≤ 64 by omega)) _) ?_
  walk_at "w"
  refine fo_eq (is_wholeB _ _) ?_
  walk_at "w"
  refine fx_eq (refuse_ok (decide_eq_true hx') _) ?_
  walk_at "w"
  refine ⟨_, _, _, _, rfl, rgcD (by omega), ?_⟩
  refine w_forN (fun i s => ∃ e3 : Option Ent, s = ⟨[some (.fz (.cid k)), some (.fz (.int (x : Int))), some (.fz (.int (m : Int))), e3], st2 M k j (oW j (B ++ (bitsN x m).take i)) (lW (B ++ (bitsN x m).take i))⟩) ⟨none, by rw [List.take_zero, List.append_nil]⟩ ?_ ?_
  · rintro i y s hi ⟨e3, rfl⟩
    obtain ⟨hlt, rfl⟩ := rngC_get hi
    have hb := bitsN_at (x := x) hlt
    have hnext : B ++ (bitsN x m).take (i + 1) = (B ++ (bitsN x m).take i) ++ [x.testBit (m - 1 - i)] := by rw [List.take_add_one, hb, List.append_assoc]; rfl
    have hlen : (B ++ (bitsN x m).take i).length ≤ 200000 := by rw [List.length_append, List.length_take, bitsN_len]; omega
    rw [hnext]
    generalize B ++ (bitsN x m).take i = C at hlen ⊢
    have hp := put_bit C (x.testBit (m - 1 - i))
    have hand : Builtin.bitAnd ((x : Int) / 2 ^ ((m : Int) - 1 + (i : Int) * -1).toNat) 1 = b2i (x.testBit (m - 1 - i)) := by rw [show ((m : Int) - 1 + (i : Int) * -1).toNat = m - 1 - i by omega]; exact bit_and
    generalize x.testBit (m - 1 - i) = b at hp hand ⊢
    have g1 := h2.gk (a := oW j C) (l := lW C)
    walk_at "w"
    rw [hand, h2.sk, pb]
    walk_at "w"
    refine ⟨_, _, _, _, objAt_of h2.gk, rfl, rfl, ?_⟩
    walk_at "w"
    refine ⟨1, _, rfl, h2.gk, by simp, ?_⟩
    dsimp only []
    rw [h2.sk, pm]
    walk_at "w"
    refine ⟨_, _, _, _, objAt_of h2.gk, rfl, rfl, ?_⟩
    walk_at "w"
    refine z_if (fun h8 => ?_) (fun h8 => ?_)
    · rw [if_pos (by omega)] at hp
      have hl8 := rsL_len C
      walk_at "w"
      refine ⟨_, _, _, _, objAt_of h2.gk, rfl, rfl, ?_⟩
      refine ⟨_, viewL_cid h2.gj, ?_⟩
      walk_at "w"
      refine ⟨_, _, _, _, objAt_of h2.gk, rfl, rfl, ?_⟩
      walk_at "w"
      refine w_app (getC_cid h2.gj) (by rw [List.length_map]; show _ < 16777216; omega) ?_
      walk_at "ds"
      rw [h2.sj]
      walk_at "w"
      refine ⟨_, _, _, objAt_of h2.gk, ⟨rfl, by simp⟩, ?_⟩
      dsimp only []
      rw [h2.sk, pb]
      exact ⟨_, by unfold oW lW; rw [hp.1, hp.2, List.length_append, List.map_append]; rfl⟩
    · rw [if_neg (by omega)] at hp
      walk_at "w"
      exact ⟨_, by unfold oW lW; rw [hp.1, hp.2, val_snoc, List.length_append]; rfl⟩
  · rintro s ⟨e3, rfl⟩
    rw [rngC_len, List.take_of_length_le (by rw [bitsN_len]; exact Nat.le_refl _)]
    exact ⟨trivial, rfl⟩
theorem pad_by (B : List Bool) : byL (B ++ List.replicate ((8 - B.length % 8) % 8) false) = if B.length % 8 = 0 then byL B else byL B ++ [val (rsL B) * 2 ^ (8 - B.length % 8)] := by
  refine ind8 (P := fun B => byL (B ++ List.replicate ((8 - B.length % 8) % 8) false) = if B.length % 8 = 0 then byL B else byL B ++ [val (rsL B) * 2 ^ (8 - B.length % 8)]) (fun B h => ?_) (fun a b c d e f g i r h => ?_) B
  · obtain ⟨e1, e2⟩ := rsL_small h
    rw [e1, e2]
    by_cases h0 : B.length % 8 = 0
    · rw [if_pos h0, show (8 - B.length % 8) % 8 = 0 by omega, List.replicate_zero, List.append_nil, e2]
    · rw [if_neg h0, show (8 - B.length % 8) % 8 = 8 - B.length % 8 by omega, Nat.mod_eq_of_lt h]
      have hl : (B ++ List.replicate (8 - B.length) false).length = 8 := by rw [List.length_append, List.length_replicate]; omega
      obtain ⟨a, b, c, d, e, f, g, i, r, he⟩ := cut8 (B := B ++ List.replicate (8 - B.length) false) (by omega)
      have hr : r = [] := by rw [he] at hl; simp at hl; exact hl
      subst hr
      rw [he]
      show [val [a, b, c, d, e, f, g, i]] = [] ++ [_]
      rw [← he, val_cat, val_zero, List.length_replicate]; simp
  · have e8 : (a :: b :: c :: d :: e :: f :: g :: i :: r).length % 8 = r.length % 8 := by simp; omega
    rw [e8]
    show val [a, b, c, d, e, f, g, i] :: byL (r ++ List.replicate ((8 - r.length % 8) % 8) false) = if r.length % 8 = 0 then val [a, b, c, d, e, f, g, i] :: byL r else val [a, b, c, d, e, f, g, i] :: byL r ++ [val (rsL r) * 2 ^ (8 - r.length % 8)]
    rw [h]
    split <;> rfl
def padd (n : Nat) : Nat := (8 - n % 8) % 8
abbrev padB (B : List Bool) : List Bool := B ++ List.replicate (padd B.length) false
theorem bitsN_zero (n : Nat) : bitsN 0 n = List.replicate n false := by
  induction n with
  | zero => rfl
  | succ n ih => show Nat.testBit 0 n :: bitsN 0 n = _; rw [ih, Nat.zero_testBit]; rfl
theorem wfill_ok {M : List Cn} {k j : Nat} (h2 : Two M k j) {B : List Bool} (hB : B.length ≤ 90000) : m_Writer_fill [.cid k] (st2 M k j (oW j B) (lW B)) = .ok (.val .non) (st2 M k j (oW j (padB B)) (lW (padB B))) := by
  refine fx_ok ?_
  have g1 := h2.gk (a := oW j B) (l := lW B)
  walk_at "fx"; unfold b_Writer_fill
  walk_at "w"
  rw [show (0 - (B.length : Int)) % 8 = ((padd B.length : Nat) : Int) by unfold padd; omega]
  refine fx_eq (wput_ok h2 (x := 0) (m := padd B.length) (by unfold padd; omega) (Nat.pow_pos (by decide)) (by omega)) ?_
  rw [bitsN_zero]
  exact ⟨trivial, rfl⟩
theorem wrow_ok {M : List Cn} {k j : Nat} (h2 : Two M k j) {B : List Bool} (hB : B.length ≤ 100000) : m_Writer_row [.cid k] (st2 M k j (oW j B) (lW B)) = .ok (.new (.lst ((byL (padB B)).map D.int))) (st2 M k j (oW j B) (lW B)) := by
  have hpb := pad_by B
  have hbd := val_bd (rsL B)
  have hl := rsL_len B
  have g1 := h2.gk (a := oW j B) (l := lW B)
  have g2 := h2.gj (a := oW j B) (l := lW B)
  refine fo_ok (P := fun _ _ => True) ?_
  walk_at "f0"; unfold b_Writer_row
  walk_at "w"
  refine z_if (fun h8 => ?_) (fun h8 => ?_)
  · rw [if_pos (by omega)] at hpb
    walk_at "w"
    refine w_list (viewL_cid g2) ?_
    walk_at "w"
    exact ⟨by rw [show byL (padB B) = byL B from hpb], rfl⟩
  · rw [if_neg (by omega)] at hpb
    walk_at "w"
    have hb2 : (2 : Int) ^ (rsL B).length ≤ 2 ^ 8 := by
      have : (rsL B).length ≤ 8 := by omega
      exact_mod_cast Nat.pow_le_pow_right (by decide) this
    have sh : CShl (val (rsL B)) (8 - (B.length : Int) % 8) := cshl_N (m := 8) (by have : (2 : Nat) ^ 8 = 256 := rfl; have : (2 : Int) ^ 8 = 256 := rfl; omega) (by decide) (by omega) (by omega)
    refine w_I (C := CShl) sh ?_
    walk_at "w"
    refine w_addL (l := (byL B).map D.int) (l' := [.int (val (rsL B) * 2 ^ (8 - (B.length : Int) % 8).toNat)]) rfl (viewL_cid g2) rfl (by rw [List.length_map]; show _ + 1 ≤ 16777216; omega) ?_
    walk_at "w"
    exact ⟨by rw [show byL (padB B) = byL B ++ [val (rsL B) * 2 ^ (8 - B.length % 8)] from hpb, List.map_append, show (8 - (B.length : Int) % 8).toNat = 8 - B.length % 8 by omega]; rfl, rfl⟩

/-! ### tokens, plain -/
inductive Tk where
  | byte (b : Int) | back (d l : Int)
def tk : Tk → D
  | .byte b => .tup [.str (Str.ofString "byte"), .int b]
  | .back d l => .tup [.str (Str.ofString "back"), .int d, .int l]
def cp (d : Nat) : Nat → List Int → List Int
  | 0, r => r
  | k + 1, r => cp d k (r ++ [r.getD (r.length - d) 0])
def stp (r : List Int) : Tk → List Int
  | .byte b => r ++ [b]
  | .back d l => cp d.toNat l.toNat r
def Vt (n : Nat) : Tk → Prop
  | .byte b => 0 ≤ b ∧ b ≤ 255
  | .back d l => 1 ≤ d ∧ d ≤ min (n : Int) 256 ∧ 1 ≤ l ∧ l ≤ 16
def Va (r : List Int) : List Tk → Prop
  | [] => True
  | t :: ts => Vt r.length t ∧ Va (stp r t) ts
def spr (r : List Int) (ts : List Tk) : List Int := ts.foldl stp r
theorem cp_len (d k : Nat) : ∀ r : List Int, (cp d k r).length = r.length + k := by
  induction k with
  | zero => intro r; rfl
  | succ k ih => intro r; show (cp d k _).length = _; rw [ih, List.length_append]; simp; omega
theorem cp_snoc (d : Nat) : ∀ (k : Nat) (r : List Int), cp d (k + 1) r = cp d k r ++ [(cp d k r).getD ((cp d k r).length - d) 0]
  | 0, r => rfl
  | k + 1, r => by
    show cp d (k + 1) (r ++ [r.getD (r.length - d) 0]) = _
    rw [cp_snoc d k]; rfl
theorem stp_len {r : List Int} {t : Tk} (h : Vt r.length t) : (stp r t).length ≤ r.length + 16 ∧ r.length < (stp r t).length := by
  cases t with
  | byte b => show (r ++ [b]).length ≤ _ ∧ _ < (r ++ [b]).length; rw [List.length_append]; simp
  | back d l =>
    obtain ⟨_, _, h3, h4⟩ := h
    show (cp d.toNat l.toNat r).length ≤ _ ∧ _ < (cp d.toNat l.toNat r).length
    rw [cp_len]; omega
theorem spr_snoc (r : List Int) (ts : List Tk) (t : Tk) : spr r (ts ++ [t]) = stp (spr r ts) t := by unfold spr; rw [List.foldl_append]; rfl
theorem Va.snoc : ∀ {ts : List Tk} {r : List Int} {t : Tk}, Va r ts → Vt (spr r ts).length t → Va r (ts ++ [t])
  | [], r, t, _, h => ⟨h, trivial⟩
  | x :: ts, r, t, h, h' => ⟨h.1, Va.snoc h.2 h'⟩
theorem Va.at : ∀ {ts : List Tk} {r : List Int} {i : Nat} {t : Tk}, Va r ts → ts[i]? = some t → Vt (spr r (ts.take i)).length t
  | x :: ts, r, 0, t, h, e => by simp at e; subst e; exact h.1
  | x :: ts, r, i + 1, t, h, e => by simp at e; exact Va.at (ts := ts) h.2 e
theorem take_snoc' {α : Type} {ps : List α} {i : Nat} {p : α} (h : ps[i]? = some p) : ps.take (i + 1) = ps.take i ++ [p] := by rw [List.take_add_one, h]; rfl
theorem spr_len {ts : List Tk} {r : List Int} (h : Va r ts) : ∀ i, i ≤ ts.length → (spr r (ts.take i)).length ≤ r.length + 16 * i
  | 0, _ => by simp [spr]
  | i + 1, hi => by
    have e : ts[i]? = some ts[i] := List.getElem?_eq_getElem hi
    rw [take_snoc' e, spr_snoc]
    have := (stp_len (h.at e)).1
    have := spr_len h i (by omega)
    omega

/-! ### tokens found, plain -/
def al (R : List Int) (p d k : Nat) : Bool := decide (p + k < R.length) && decide (R.getD (p + k) 0 = R.getD (p + k - d) 0)
def rnF (f : Nat → Bool) : Nat → Nat → Nat
  | 0, k => k
  | n + 1, k => if f k = true then rnF f n (k + 1) else k
theorem rnF_eq {f : Nat → Bool} : ∀ (n k j : Nat), k ≤ j → j ≤ k + n → (∀ i, k ≤ i → i < j → f i = true) → (j < k + n → f j = false) → rnF f n k = j
  | 0, k, j, h1, h2, _, _ => by show k = j; omega
  | n + 1, k, j, h1, h2, h3, h4 => by
    show (if f k = true then rnF f n (k + 1) else k) = j
    by_cases e : k = j
    · subst e; rw [h4 (by omega)]; rfl
    · rw [if_pos (h3 k (Nat.le_refl _) (by omega))]
      exact rnF_eq n (k + 1) j (by omega) (by omega) (fun i a b => h3 i (by omega) b) (fun a => h4 (by omega))
theorem rnF_spec {f : Nat → Bool} : ∀ (n k : Nat), k ≤ rnF f n k ∧ rnF f n k ≤ k + n ∧ (∀ i, k ≤ i → i < rnF f n k → f i = true)
  | 0, k => ⟨Nat.le_refl _, Nat.le_refl _, fun i h1 h2 => absurd h2 (by show ¬ i < k; omega)⟩
  | n + 1, k => by
    obtain ⟨h1, h2, h3⟩ := rnF_spec (f := f) n (k + 1)
    by_cases e : f k = true
    · rw [show rnF f (n + 1) k = rnF f n (k + 1) from if_pos e]
      refine ⟨by omega, by omega, fun i a b => ?_⟩
      by_cases q : i = k
      · subst q; exact e
      · exact h3 i (by omega) b
    · rw [show rnF f (n + 1) k = k from if_neg e]
      exact ⟨Nat.le_refl _, by omega, fun i a b => by omega⟩
def rn (R : List Int) (p d : Nat) : Nat := rnF (al R p d) 16 0
theorem rn_eq {R : List Int} {p d j : Nat} (h : j ≤ 16) (h1 : ∀ i, i < j → al R p d i = true) (h2 : j < 16 → al R p d j = false) : rn R p d = j := rnF_eq 16 0 j (Nat.zero_le _) (by omega) (fun i _ a => h1 i a) (fun a => h2 (by omega))
theorem rn_le (R : List Int) (p d : Nat) : rn R p d ≤ 16 := by have := (rnF_spec (f := al R p d) 16 0).2.1; unfold rn; omega
theorem rn_al {R : List Int} {p d i : Nat} (h : i < rn R p d) : al R p d i = true := (rnF_spec (f := al R p d) 16 0).2.2 i (Nat.zero_le _) h
theorem al_of {R : List Int} {p d k : Nat} (h : al R p d k = true) : p + k < R.length ∧ R.getD (p + k) 0 = R.getD (p + k - d) 0 := by
  unfold al at h; rw [Bool.and_eq_true] at h; exact ⟨of_decide_eq_true h.1, of_decide_eq_true h.2⟩
def bb (R : List Int) (p : Nat) : Nat → Nat × Nat
  | 0 => (0, 0)
  | n + 1 => if (bb R p n).2 < rn R p (n + 1) then (n + 1, rn R p (n + 1)) else bb R p n
theorem bb_le (R : List Int) (p : Nat) : ∀ n, (bb R p n).2 ≤ 16
  | 0 => Nat.zero_le _
  | n + 1 => by
    unfold bb; split
    · exact rn_le _ _ _
    · exact bb_le R p n
theorem bb_at (R : List Int) (p : Nat) : ∀ n, 0 < (bb R p n).2 → 1 ≤ (bb R p n).1 ∧ (bb R p n).1 ≤ n ∧ rn R p (bb R p n).1 = (bb R p n).2
  | 0, h => absurd h (Nat.lt_irrefl _)
  | n + 1, h => by
    unfold bb at h ⊢
    split at h
    · rename_i c; rw [if_pos c]; exact ⟨by show 1 ≤ n + 1; omega, Nat.le_refl _, rfl⟩
    · rename_i c; rw [if_neg c]
      obtain ⟨a, b, e⟩ := bb_at R p n h
      exact ⟨a, by omega, e⟩
theorem bb_lt (R : List Int) (p : Nat) : ∀ n, (∀ d, 1 ≤ d → d ≤ n → rn R p d ≤ (bb R p n).2) ∧ (∀ d, 1 ≤ d → d < (bb R p n).1 → rn R p d < (bb R p n).2)
  | 0 => ⟨fun d a b => absurd a (by omega), fun d a b => absurd b (by show ¬ d < 0; omega)⟩
  | n + 1 => by
    obtain ⟨h1, h2⟩ := bb_lt R p n
    unfold bb
    split
    · rename_i c
      refine ⟨fun d a b => ?_, fun d a b => ?_⟩
      · by_cases e : d = n + 1
        · subst e; exact Nat.le_refl _
        · have := h1 d a (by omega); show _ ≤ rn R p (n + 1); omega
      · have b : d < n + 1 := b
        have := h1 d a (by omega); show _ < rn R p (n + 1); omega
    · rename_i c
      refine ⟨fun d a b => ?_, h2⟩
      by_cases e : d = n + 1
      · subst e; omega
      · exact h1 d a (by omega)
theorem bb_max (R : List Int) (p : Nat) : ∀ n, ((List.range n).map fun k => ((rn R p (k + 1) : Nat) : Int)).foldl max 0 = ((bb R p n).2 : Int)
  | 0 => rfl
  | n + 1 => by
    rw [List.range_succ, List.map_append, List.foldl_append, bb_max R p n]
    show max ((bb R p n).2 : Int) ((rn R p (n + 1) : Nat) : Int) = ((bb R p (n + 1)).2 : Int)
    rw [show bb R p (n + 1) = if (bb R p n).2 < rn R p (n + 1) then (n + 1, rn R p (n + 1)) else bb R p n from rfl]
    split
    · show _ = ((rn R p (n + 1) : Nat) : Int); omega
    · omega
def tokAt (R : List Int) (w p : Nat) : Tk := if (bb R p (min w p)).2 < 3 then .byte (R.getD p 0) else .back ((bb R p (min w p)).1 : Nat) ((bb R p (min w p)).2 : Nat)
/-- how many bytes a token tells -/
def tkn : Tk → Nat
  | .byte _ => 1
  | .back _ l => l.toNat
def Fd (R : List Int) (w : Nat) : Nat → List Tk → Prop
  | p, [] => p = R.length
  | p, t :: ts => p < R.length ∧ t = tokAt R w p ∧ Fd R w (p + tkn t) ts
theorem Fd.same {R : List Int} {w : Nat} : ∀ {ts us : List Tk} {p : Nat}, Fd R w p ts → Fd R w p us → ts = us
  | [], [], _, _, _ => rfl
  | [], _ :: _, p, h, h' => by have : p = R.length := h; exact absurd h'.1 (by omega)
  | _ :: _, [], p, h, h' => by have : p = R.length := h'; exact absurd h.1 (by omega)
  | t :: ts, u :: us, p, h, h' => by
    obtain ⟨_, e, h⟩ := h
    obtain ⟨_, e', h'⟩ := h'
    rw [e] at h; rw [e'] at h'
    rw [e, e', Fd.same h h']
theorem cp_run {R : List Int} {p d : Nat} (hd : 1 ≤ d) (hp : d ≤ p) : ∀ k, (∀ i, i < k → al R p d i = true) → cp d k (R.take p) = R.take (p + k)
  | 0, _ => rfl
  | k + 1, h => by
    rw [cp_snoc, cp_run hd hp k (fun i a => h i (by omega))]
    obtain ⟨a, b⟩ := al_of (h k (by omega))
    have hl : (R.take (p + k)).length = p + k := by rw [List.length_take]; omega
    rw [hl]
    have e : R.take (p + (k + 1)) = R.take (p + k) ++ [R.getD (p + k) 0] := by
      rw [show p + (k + 1) = (p + k) + 1 from rfl, List.take_add_one, List.getElem?_eq_getElem a, List.getD_eq_getElem?_getD, List.getElem?_eq_getElem a]; rfl
    rw [e, b]
    congr 1
    rw [List.getD_eq_getElem?_getD, List.getElem?_take_of_lt (by omega), ← List.getD_eq_getElem?_getD]
theorem tok_all {R : List Int} {w p : Nat} (hw : 1 ≤ w ∧ w ≤ 256) (hb : ∀ x ∈ R, 0 ≤ x ∧ x ≤ 255) (hp : p < R.length) : Vt (R.take p).length (tokAt R w p) ∧ stp (R.take p) (tokAt R w p) = R.take (p + tkn (tokAt R w p)) ∧ 1 ≤ tkn (tokAt R w p) ∧ p + tkn (tokAt R w p) ≤ R.length := by
  have hl : (R.take p).length = p := by rw [List.length_take]; omega
  rw [hl]
  unfold tokAt
  split
  · have hg : R.getD p 0 = R[p] := by rw [List.getD_eq_getElem?_getD, List.getElem?_eq_getElem hp]; rfl
    refine ⟨?_, ?_, Nat.le_refl _, hp⟩
    · show 0 ≤ R.getD p 0 ∧ R.getD p 0 ≤ 255
      rw [hg]; exact hb _ (List.getElem_mem hp)
    · show R.take p ++ [R.getD p 0] = R.take (p + 1)
      rw [List.take_add_one, List.getElem?_eq_getElem hp, hg]; rfl
  · rename_i c
    obtain ⟨a, b, e⟩ := bb_at R p (min w p) (by omega)
    have h16 := bb_le R p (min w p)
    have hr : ∀ i, i < (bb R p (min w p)).2 → al R p (bb R p (min w p)).1 i = true := fun i h => rn_al (by rw [e]; exact h)
    refine ⟨⟨?_, ?_, ?_, ?_⟩, ?_, ?_, ?_⟩
    · omega
    · omega
    · omega
    · omega
    · show cp (((bb R p (min w p)).1 : Nat) : Int).toNat (((bb R p (min w p)).2 : Nat) : Int).toNat (R.take p) = R.take (p + (((bb R p (min w p)).2 : Nat) : Int).toNat)
      rw [Int.toNat_natCast, Int.toNat_natCast]
      exact cp_run a (by omega) _ hr
    · show 1 ≤ (((bb R p (min w p)).2 : Nat) : Int).toNat; omega
    · show p + (((bb R p (min w p)).2 : Nat) : Int).toNat ≤ _
      have := (al_of (hr ((bb R p (min w p)).2 - 1) (by omega))).1
      omega
theorem Fd.all {R : List Int} {w : Nat} (hw : 1 ≤ w ∧ w ≤ 256) (hb : ∀ x ∈ R, 0 ≤ x ∧ x ≤ 255) : ∀ {ts : List Tk} {p : Nat}, Fd R w p ts → p ≤ R.length ∧ Va (R.take p) ts ∧ spr (R.take p) ts = R ∧ p + ts.length ≤ R.length
  | [], p, h => by
    have h : p = R.length := h
    refine ⟨by omega, trivial, ?_, by simp; omega⟩
    show R.take p = R; rw [h, List.take_length]
  | t :: ts, p, h => by
    obtain ⟨h1, rfl, h3⟩ := h
    obtain ⟨a1, a2, a3, a4⟩ := tok_all hw hb h1
    obtain ⟨b1, b2, b3, b4⟩ := Fd.all hw hb h3
    rw [← a2] at b2 b3
    exact ⟨by omega, ⟨a1, b2⟩, b3, by simp; omega⟩

theorem run_ok {R : List Int} {p d : Nat} (hd : 1 ≤ d ∧ d ≤ p) (M : List Cn) : m_run_at [.lst (R.map D.int), .int (p : Nat), .int (d : Nat)] M = .ok (.val (.int (rn R p d : Nat))) M := by
  refine fo_ok (P := fun _ _ => True) ?_
  walk_at "f0"; unfold b_run_at
  walk_at "w"
  refine w_while (fun n s => ∃ k : Nat, s = ⟨[some (.fz (.lst (R.map D.int))), some (.fz (.int (p : Nat))), some (.fz (.int (d : Nat))), some (.fz (.int (k : Nat)))], M⟩ ∧ n = 16 - k ∧ k ≤ 16 ∧ ∀ i, i < k → al R p d i = true) 16 ⟨0, rfl, rfl, by omega, fun i h => by omega⟩ ?_ ?_
  · rintro n s ⟨k, rfl, rfl, hk, h⟩
    walk_at "w"
    refine z_if (fun hc => ?_) (fun hc => ?_)
    · walk_at "w"
      rw [List.length_map]
      refine z_if (fun hc2 => ?_) (fun hc2 => ?_)
      · walk_at "w"
        refine w_ixI rfl rfl rfl (by omega) (by omega) ?_
        walk_at "w"
        refine w_ixI rfl rfl rfl (by omega) (by omega) ?_
        walk_at "w"
        rw [show ((p : Int) + (k : Int)).toNat = p + k by omega, show ((p : Int) + (k : Int) - (d : Int)).toNat = p + k - d by omega]
        have ha : al R p d k = decide (R.getD (p + k) 0 = R.getD (p + k - d) 0) := by unfold al; rw [decide_eq_true (by omega : p + k < R.length)]; rfl
        refine z_if (fun hc3 => ?_) (fun hc3 => ?_)
        · walk_at "w"
          refine ⟨16 - (k + 1), by omega, k + 1, rfl, rfl, by omega, fun i hi => ?_⟩
          by_cases e : i = k
          · subst e; rw [ha, decide_eq_true hc3]
          · exact h i (by omega)
        · walk_at "w"
          refine ⟨?_, rfl⟩
          rw [rn_eq hk h (fun _ => by rw [ha, decide_eq_false hc3])]
      · walk_at "w"
        refine ⟨?_, rfl⟩
        rw [rn_eq hk h (fun _ => by unfold al; rw [decide_eq_false (by omega)]; rfl)]
    · walk_at "w"
      refine ⟨?_, rfl⟩
      rw [rn_eq hk h (fun _ => by omega)]
  · intro r hr e; subst e; exact hr
theorem best_ok {R : List Int} {p w : Nat} (hp : p ≤ 10000) (M : List Cn) : m_best_back [.lst (R.map D.int), .int (p : Nat), .int (w : Nat)] M = .ok (.val (.tup [.int ((bb R p (min w p)).1 : Nat), .int ((bb R p (min w p)).2 : Nat)])) M := by
  refine fo_ok (P := fun _ _ => True) ?_
  walk_at "f0"; unfold b_best_back
  walk_at "w"
  refine w_forN (fun n s => ∃ e3 e4 : Option Ent, s = ⟨[some (.fz (.lst (R.map D.int))), some (.fz (.int (p : Nat))), some (.fz (.int (w : Nat))), some (.fz (.tup [.int ((bb R p n).1 : Nat), .int ((bb R p n).2 : Nat)])), e3, e4], M⟩) ⟨none, none, rfl⟩ ?_ ?_
  · rintro n x s hi ⟨e3, e4, rfl⟩
    obtain ⟨hk, rfl⟩ := rng_get hi
    have hk : n < min w p := by omega
    walk_at "w"
    rw [show (1 : Int) + (n : Int) = ((n + 1 : Nat) : Int) by omega]
    refine fo_eq (run_ok ⟨by omega, by omega⟩ M) ?_
    walk_at "w"
    refine w_ixT (d := .int ((bb R p n).2 : Nat)) rfl rfl rfl rfl rfl ?_
    walk_at "w"
    have hb : bb R p (n + 1) = if (bb R p n).2 < rn R p (n + 1) then (n + 1, rn R p (n + 1)) else bb R p n := rfl
    refine z_if (fun hc => ?_) (fun hc => ?_)
    · walk_at "w"
      rw [hb, if_pos (by omega)]
      exact ⟨_, _, rfl⟩
    · walk_at "w"
      rw [hb, if_neg (by omega)]
      exact ⟨_, _, rfl⟩
  · rintro s ⟨e3, e4, rfl⟩
    rw [rng_len, show (min (w : Int) (p : Int) + 1 - 1).toNat = min w p by omega]
    walk_at "w"
    exact ⟨rfl, rfl⟩
theorem found_ok {R : List Int} {w : Nat} (hw : 1 ≤ w ∧ w ≤ 256) (hb : ∀ x ∈ R, 0 ≤ x ∧ x ≤ 255) (hR : R.length ≤ 1000) (M : List Cn) : Fo (fun a M' => ∃ ts, Fd R w 0 ts ∧ a = .new (.lst (ts.map tk)) ∧ M' = M) (m_found_in [.lst (R.map D.int), .int (w : Nat)] M) := by
  walk_at "f0"; unfold b_found_in
  walk_at "w"
  refine w_while (fun n s => ∃ (p : Nat) (ts : List Tk) (e4 e5 : Option Ent), s = ⟨[some (.fz (.lst (R.map D.int))), some (.fz (.int (w : Nat))), some (.ow (.lst (ts.map tk))), some (.fz (.int (p : Nat))), e4, e5], M⟩ ∧ n = R.length - p ∧ p ≤ R.length ∧ ts.length ≤ p ∧ ∀ us, Fd R w p us → Fd R w 0 (ts ++ us)) R.length ⟨0, [], none, none, rfl, rfl, by omega, Nat.le_refl _, fun us h => h⟩ ?_ ?_
  · rintro n s ⟨p, ts, e4, e5, rfl, rfl, hp, hl, h⟩
    walk_at "w"
    rw [List.length_map]
    refine z_if (fun hc => ?_) (fun hc => ?_)
    · have hc : p < R.length := by omega
      obtain ⟨a1, a2, a3, a4⟩ := tok_all hw hb hc
      have hn : ∀ us, Fd R w (p + tkn (tokAt R w p)) us → Fd R w 0 (ts ++ [tokAt R w p] ++ us) := fun us hu => by
        rw [List.append_assoc]; exact h _ ⟨hc, rfl, hu⟩
      walk_at "w"
      refine fo_eq (best_ok (by omega) M) ?_
      walk_at "w"
      refine z_if (fun hc3 => ?_) (fun hc3 => ?_)
      · have ht : tokAt R w p = .byte (R.getD p 0) := if_pos (by omega)
        rw [ht] at hn a1 a2 a3 a4
        walk_at "w"
        refine w_ixI rfl rfl rfl (by omega) (by omega) ?_
        rw [Int.toNat_natCast]
        walk_at "w"
        refine w_app rfl (by rw [List.length_map]; walk_at "sd") ?_
        walk_at "ds"
        walk_at "w"
        exact ⟨R.length - (p + 1), by omega, p + 1, ts ++ [Tk.byte (R.getD p 0)], _, _, by rw [List.map_append]; rfl, rfl, by omega, by simp; omega, hn⟩
      · have ht : tokAt R w p = .back ((bb R p (min w p)).1 : Nat) ((bb R p (min w p)).2 : Nat) := if_neg (by omega)
        rw [ht] at hn a1 a2 a3 a4
        have hk : tkn (.back ((bb R p (min w p)).1 : Nat) ((bb R p (min w p)).2 : Nat)) = (bb R p (min w p)).2 := by show (((bb R p (min w p)).2 : Nat) : Int).toNat = _; omega
        rw [hk] at hn a2 a3 a4
        walk_at "w"
        refine w_app rfl (by rw [List.length_map]; walk_at "sd") ?_
        walk_at "ds"
        walk_at "w"
        exact ⟨R.length - (p + (bb R p (min w p)).2), by omega, p + (bb R p (min w p)).2, ts ++ [Tk.back ((bb R p (min w p)).1 : Nat) ((bb R p (min w p)).2 : Nat)], _, _, by rw [List.map_append]; rfl, rfl, by omega, by simp; omega, hn⟩
    · walk_at "w"
      have e : p = R.length := by omega
      refine ⟨ts, ?_, rfl, rfl⟩
      have := h [] e
      rw [List.append_nil] at this; exact this
  · intro r hr e; subst e; exact hr

/-! ### tokens as bits -/
def sy : Tk → Int
  | .byte b => b / 8
  | .back _ _ => 32
def GT : Tk → Prop
  | .byte b => 0 ≤ b ∧ b ≤ 255
  | .back d l => 1 ≤ d ∧ d ≤ 256 ∧ 1 ≤ l ∧ l ≤ 16
theorem sy_bd {t : Tk} (h : GT t) : 0 ≤ sy t ∧ sy t < 33 := by
  cases t with
  | byte b => obtain ⟨h1, h2⟩ := h; show 0 ≤ b / 8 ∧ b / 8 < 33; omega
  | back d l => show (0 : Int) ≤ 32 ∧ (32 : Int) < 33; decide
theorem Fd.good {R : List Int} {w : Nat} (hw : 1 ≤ w ∧ w ≤ 256) (hb : ∀ x ∈ R, 0 ≤ x ∧ x ≤ 255) : ∀ {ts : List Tk} {p : Nat}, p ≤ R.length → Fd R w p ts → (∀ t ∈ ts, GT t) ∧ ts.length + p ≤ R.length ∧ (p < R.length → ts ≠ []) ∧ Va (R.take p) ts ∧ spr (R.take p) ts = R
  | [], p, _, h => by
    have h : p = R.length := h
    refine ⟨(fun t ht => by cases ht), (by show 0 + p ≤ R.length; omega), (fun z => absurd h (by omega)), trivial, ?_⟩
    show R.take p = R
    rw [h, List.take_length]
  | t :: ts, p, hp, h => by
    obtain ⟨h1, rfl, h3⟩ := h
    obtain ⟨a1, a2, a3, a4⟩ := tok_all hw hb h1
    obtain ⟨i1, i2, i3, i4, i5⟩ := Fd.good hw hb a4 h3
    refine ⟨(fun t ht => ?_), (by rw [List.length_cons]; omega), (fun _ z => nomatch z), ⟨a1, by rw [a2]; exact i4⟩, ?_⟩
    · rcases List.mem_cons.mp ht with rfl | ht
      · revert a1
        cases tokAt R w p with
        | byte b => exact fun a1 => a1
        | back d l => exact fun a1 => ⟨a1.1, by have := a1.2.1; omega, a1.2.2⟩
      · exact i1 t ht
    · show spr (stp (R.take p) (tokAt R w p)) ts = R
      rw [a2]; exact i5
theorem symbol_ok (t : Tk) (M : List Cn) : m_symbol_of [tk t] M = .ok (.val (.int (sy t))) M := by
  refine fo_ok (P := fun _ _ => True) ?_
  walk_at "f0"; unfold b_symbol_of
  cases t with
  | byte b =>
    walk_at "w"
    refine w_ixT (d := .str (Str.ofString "byte")) rfl rfl rfl rfl rfl ?_
    walk_at "w"
    refine w_ixT (d := .int b) rfl rfl rfl rfl rfl ?_
    walk_at "w"
    exact ⟨rfl, rfl⟩
  | back d l =>
    walk_at "w"
    refine w_ixT (d := .str (Str.ofString "back")) rfl rfl rfl rfl rfl ?_
    walk_at "w"
    exact ⟨rfl, rfl⟩
/-- how often each symbol comes -/
def cT (ss : List Int) : List Int := (List.range 33).map fun (s : Nat) => ((ss.count (s : Int) : Nat) : Int)
theorem cT_len (ss : List Int) : (cT ss).length = 33 := by unfold cT; simp
theorem cT_snoc {ss : List Int} {x : Int} (h0 : 0 ≤ x) (h1 : x < 33) : cT (ss ++ [x]) = (cT ss).set x.toNat ((cT ss).getD x.toNat 0 + 1) := by
  unfold cT
  refine List.ext_getElem (by simp) fun i q1 q2 => ?_
  have hi : i < 33 := by simpa using q1
  rw [List.getElem_set]
  simp only [List.getElem_map, List.getElem_range]
  rw [List.count_append, List.count_singleton, List.getD_eq_getElem?_getD, List.getElem?_map, List.getElem?_range (show x.toNat < 33 by omega)]
  by_cases e : x = (i : Int)
  · rw [if_pos (by simpa using e), if_pos (by omega)]
    show ((List.count (i : Int) ss + 1 : Nat) : Int) = ((List.count ((x.toNat : Nat) : Int) ss : Nat) : Int) + 1
    rw [show ((x.toNat : Nat) : Int) = (i : Int) by omega]; omega
  · rw [if_neg (by simpa using e), if_neg (by omega)]; rfl
theorem cT_perm {ss rs : List Int} (h : ss.Perm rs) : cT ss = cT rs := by
  unfold cT
  exact List.map_congr_left fun s _ => by rw [h.count_eq]
theorem set_sum : ∀ (cs : List Int) (i : Nat) (v : Int), i < cs.length → (cs.set i v).sum = cs.sum - cs.getD i 0 + v
  | [], _, _, h => by cases h
  | c :: cs, 0, v, _ => by show v + cs.sum = c + cs.sum - c + v; omega
  | c :: cs, i + 1, v, h => by
    show c + (cs.set i v).sum = c + cs.sum - cs.getD i 0 + v
    rw [set_sum cs i v (by rw [List.length_cons] at h; omega)]; omega
theorem cT_sum : ∀ (ss : List Int), (∀ x ∈ ss, 0 ≤ x ∧ x < 33) → (cT ss).sum = ss.length
  | [], _ => rfl
  | x :: ss, h => by
    obtain ⟨h0, h1⟩ := h x (List.mem_cons_self ..)
    rw [cT_perm (List.perm_append_singleton x ss).symm, cT_snoc h0 h1, set_sum _ _ _ (by rw [cT_len]; omega), cT_sum ss fun y hy => h y (List.mem_cons_of_mem _ hy), List.length_cons]
    omega
theorem cT_cts {ss : List Int} (h : ∀ x ∈ ss, 0 ≤ x ∧ x < 33) (hl : ss.length ≤ 1000) : Cts (cT ss) := by
  refine ⟨by rw [cT_len]; decide, by rw [cT_len]; decide, fun c hc => ?_, by rw [cT_sum ss h]; omega⟩
  unfold cT at hc
  obtain ⟨s, _, rfl⟩ := List.mem_map.mp hc
  have := List.count_le_length (a := (s : Int)) (l := ss)
  omega
theorem cT_pos {ss : List Int} {x : Int} (hx : x ∈ ss) (h0 : 0 ≤ x) (h1 : x < 33) : 0 < (cT ss).getD x.toNat 0 := by
  unfold cT
  rw [List.getD_eq_getElem?_getD, List.getElem?_map, List.getElem?_range (show x.toNat < 33 by omega)]
  show (0 : Int) < ((ss.count ((x.toNat : Nat) : Int) : Nat) : Int)
  rw [show ((x.toNat : Nat) : Int) = x by omega]
  have := List.count_pos_iff.mpr hx
  omega
theorem counts_of_ok {ts : List Tk} (hg : ∀ t ∈ ts, GT t) (M : List Cn) : m_counts_of [.lst (ts.map tk)] M = .ok (.new (.lst ((cT (ts.map sy)).map D.int))) M := by
  refine fo_ok (P := fun _ _ => True) ?_
  walk_at "f0"; unfold b_counts_of
  walk_at "w"
  refine w_lcMap (fun _ => .int 0) ?_ ?_ ?_
  · rw [rng_len]; show 33 ≤ 16777216; decide
  · intro x hx
    walk_at "w"
    exact ⟨rfl, rfl⟩
  have e : (rng 0 (33 : Int).toNat).map (fun _ => D.int 0) = (cT ((ts.take 0).map sy)).map D.int := rfl
  rw [e]
  walk_at "ds"
  walk_at "w"
  refine w_forN (fun i s => ∃ e2 e3 : Option Ent, s = ⟨[some (.fz (.lst (ts.map tk))), some (.ow (.lst ((cT ((ts.take i).map sy)).map D.int))), e2, e3], M⟩) ⟨_, _, rfl⟩ ?_ ?_
  · rintro i y s hi ⟨e2, e3, rfl⟩
    obtain ⟨t, ht, rfl⟩ := map_get hi
    obtain ⟨b0, b1⟩ := sy_bd (hg t (List.mem_of_getElem? ht))
    have hnx : (ts.take (i + 1)).map sy = (ts.take i).map sy ++ [sy t] := by rw [take_snoc' ht, List.map_append]; rfl
    rw [hnx, cT_snoc b0 b1]
    have hl := cT_len ((ts.take i).map sy)
    generalize cT ((ts.take i).map sy) = cs at *
    walk_at "w"
    refine fo_eq (symbol_ok t M) ?_
    walk_at "w"
    refine ⟨sy t, cs.getD (sy t).toNat 0, _, rfl, rfl, ?_, b0, ?_⟩
    · rw [List.getElem?_map, List.getD_eq_getElem?_getD, List.getElem?_eq_getElem (show (sy t).toNat < cs.length by omega)]; rfl
    walk_at "w"
    refine so_setI (ns := cs) rfl b0 (by omega) ?_
    walk_at "ds"
    exact ⟨_, _, rfl⟩
  · rintro s ⟨e2, e3, rfl⟩
    rw [List.length_map, List.take_length]
    walk_at "w"
    exact ⟨rfl, rfl⟩

/-! ### a packed body -/
def tkE : Tk → List Bool
  | .byte b => bitsN (b % 8).toNat 3
  | .back d l => bitsN (d - 1).toNat 8 ++ bitsN (l - 1).toNat 4
def tkB (ls : List Int) (t : Tk) : List Bool := bitsN (wordN ls (sy t)).toNat (ls.getD (sy t).toNat 0).toNat ++ tkE t
def taB (ls : List Int) : List Bool := (ls.map fun l => bitsN l.toNat 4).flatten
def tsB (ls : List Int) (ts : List Tk) : List Bool := (ts.map (tkB ls)).flatten
def pkB (ls : List Int) (ts : List Tk) : List Bool := padB (taB ls) ++ tsB ls ts
theorem tsB_snoc (ls : List Int) (ts : List Tk) (t : Tk) : tsB ls (ts ++ [t]) = tsB ls ts ++ tkB ls t := by unfold tsB; rw [List.map_append, List.flatten_append]; simp
theorem taB_snoc (ls : List Int) (l : Int) : taB (ls ++ [l]) = taB ls ++ bitsN l.toNat 4 := by unfold taB; rw [List.map_append, List.flatten_append]; simp
theorem taB_len (ls : List Int) : (taB ls).length = 4 * ls.length := by
  unfold taB
  induction ls with
  | nil => rfl
  | cons l ls ih => rw [List.map_cons, List.flatten_cons, List.length_append, bitsN_len, ih, List.length_cons]; omega
theorem tkE_len (t : Tk) : (tkE t).length ≤ 12 := by
  cases t with
  | byte b => show (bitsN _ 3).length ≤ 12; rw [bitsN_len]; decide
  | back d l => show (bitsN _ 8 ++ bitsN _ 4).length ≤ 12; rw [List.length_append, bitsN_len, bitsN_len]; decide
theorem lnat {ls : List Int} (h : Ln ls) (i : Nat) : 0 ≤ ls.getD i 0 ∧ ls.getD i 0 ≤ 15 := by
  by_cases hi : i < ls.length
  · rw [List.getD_eq_getElem?_getD, List.getElem?_eq_getElem hi]; exact h.bd _ (List.getElem_mem _)
  · rw [List.getD_eq_getElem?_getD, List.getElem?_eq_none_iff.mpr (by omega)]; show (0 : Int) ≤ 0 ∧ (0 : Int) ≤ 15; decide
theorem tkB_len {ls : List Int} (h : Ln ls) (t : Tk) : (tkB ls t).length ≤ 27 := by
  unfold tkB
  rw [List.length_append, bitsN_len]
  have := tkE_len t
  have := lnat h (sy t).toNat
  omega
theorem tsB_len {ls : List Int} (h : Ln ls) (ts : List Tk) : (tsB ls ts).length ≤ 27 * ts.length := by
  unfold tsB
  induction ts with
  | nil => exact Nat.le_refl _
  | cons t ts ih =>
    rw [List.map_cons, List.flatten_cons, List.length_append, List.length_cons]
    have := tkB_len h t
    omega
theorem two_nat (m : Nat) : ((2 ^ m : Nat) : Int) = (2 : Int) ^ m := by push_cast; rfl
theorem put_token_ok {M : List Cn} {k j : Nat} (h2 : Two M k j) {ls : List Int} (h : Ln ls) (hl : ls.length = 33) {t : Tk} (hg : GT t) (hs : 0 < ls.getD (sy t).toNat 0) {B : List Bool} (hB : B.length ≤ 50000) :
    m_put_token [.cid k, .lst ((List.range ls.length).map (wrd ls)), tk t] (st2 M k j (oW j B) (lW B)) = .ok (.val .non) (st2 M k j (oW j (B ++ tkB ls t)) (lW (B ++ tkB ls t))) := by
  obtain ⟨b0, b1⟩ := sy_bd hg
  have hw := plc_mul h b0 (by omega) hs
  have hlt := wordN_lt h b0 (by omega) hs
  have hb := h.at b0 (show sy t < ls.length by omega)
  have hat : atI ((List.range ls.length).map (wrd ls)) (sy t) = some (tP (ls.getD (sy t).toNat 0, wordN ls (sy t))) := by
    rw [atI_nn b0, List.getElem?_map, List.getElem?_range (by omega)]
    show some (wrd ls (sy t).toNat) = _
    unfold wrd
    rw [if_pos hs, show (((sy t).toNat : Nat) : Int) = sy t by omega]
  unfold tkB
  obtain ⟨x, hx⟩ : ∃ x : Nat, wordN ls (sy t) = (x : Int) := ⟨(wordN ls (sy t)).toNat, by omega⟩
  obtain ⟨m, hm⟩ : ∃ m : Nat, ls.getD (sy t).toNat 0 = (m : Int) := ⟨(ls.getD (sy t).toNat 0).toNat, by omega⟩
  rw [hx, hm] at hat hlt ⊢
  rw [hm] at hb
  rw [Int.toNat_natCast] at hlt
  have hxm : x < 2 ^ m := by have := two_nat m; omega
  rw [Int.toNat_natCast, Int.toNat_natCast, ← List.append_assoc]
  refine fx_ok ?_
  walk_at "fx"; unfold b_put_token
  walk_at "w"
  refine fo_eq (symbol_ok t _) ?_
  walk_at "w"
  refine w_ixL (d := tP ((m : Int), (x : Int))) rfl rfl rfl hat ?_
  walk_at "w"
  refine ⟨_, _, objAt_of h2.gk, rfl, ?_⟩
  walk_at "w"
  refine fx_eq (wput_ok h2 (x := x) (m := m) (by omega) hxm (by omega)) ?_
  have hl1 : (B ++ bitsN x m).length ≤ 60000 := by rw [List.length_append, bitsN_len]; omega
  generalize B ++ bitsN x m = C at *
  cases t with
  | byte b =>
    obtain ⟨g0, g1⟩ := hg
    walk_at "w"
    refine w_ixT (d := .str (Str.ofString "byte")) rfl rfl rfl rfl rfl ?_
    walk_at "w"
    refine ⟨_, _, objAt_of h2.gk, rfl, ?_⟩
    walk_at "w"
    refine w_ixT (d := .int b) rfl rfl rfl rfl rfl ?_
    walk_at "w"
    rw [show b % 8 = (((b % 8).toNat : Nat) : Int) by omega]
    refine fx_eq (wput_ok h2 (x := (b % 8).toNat) (m := 3) (by omega) (by have : (2 : Nat) ^ 3 = 8 := rfl; omega) (by omega)) ?_
    exact ⟨trivial, rfl⟩
  | back d l =>
    obtain ⟨g0, g1, g2, g3⟩ := hg
    walk_at "w"
    refine w_ixT (d := .str (Str.ofString "back")) rfl rfl rfl rfl rfl ?_
    walk_at "w"
    refine ⟨_, _, objAt_of h2.gk, rfl, ?_⟩
    walk_at "w"
    refine w_ixT (d := .int d) rfl rfl rfl rfl rfl ?_
    walk_at "w"
    rw [show d - 1 = (((d - 1).toNat : Nat) : Int) by omega]
    refine fx_eq (wput_ok h2 (x := (d - 1).toNat) (m := 8) (by omega) (by have : (2 : Nat) ^ 8 = 256 := rfl; omega) (by omega)) ?_
    walk_at "w"
    refine ⟨_, _, objAt_of h2.gk, rfl, ?_⟩
    walk_at "w"
    refine w_ixT (d := .int l) rfl rfl rfl rfl rfl ?_
    walk_at "w"
    rw [show l - 1 = (((l - 1).toNat : Nat) : Int) by omega]
    refine fx_eq (wput_ok h2 (x := (l - 1).toNat) (m := 4) (by omega) (by have : (2 : Nat) ^ 4 = 16 := rfl; omega) (by rw [List.length_append, bitsN_len]; omega)) ?_
    exact ⟨trivial, by rw [show tkE (.back d l) = bitsN (d - 1).toNat 8 ++ bitsN (l - 1).toNat 4 from rfl, ← List.append_assoc]⟩
/-- the lengths of some tokens -/
noncomputable def lnT (ts : List Tk) : List Int := lenBy ((cT (ts.map sy)).length : Int) (cT (ts.map sy)) (paper ((cT (ts.map sy)).length : Int) (fpF 0 (cT (ts.map sy))))
theorem lnT_ok {ts : List Tk} (hg : ∀ t ∈ ts, GT t) (hl : ts.length ≤ 1000) : Cts (cT (ts.map sy)) ∧ Ln (lnT ts) ∧ (lnT ts).length = 33 ∧ ∀ t ∈ ts, 0 < (lnT ts).getD (sy t).toNat 0 := by
  have hss : ∀ x ∈ ts.map sy, 0 ≤ x ∧ x < 33 := fun x hx => by
    obtain ⟨t, ht, rfl⟩ := List.mem_map.mp hx
    exact sy_bd (hg t ht)
  have hc := cT_cts hss (by rw [List.length_map]; exact hl)
  obtain ⟨b, hp⟩ := least_pap (cT (ts.map sy))
  have hL := lens_of hc hp
  have hlen : (lnT ts).length = 33 := by have := hL.len; rw [cT_len] at this; exact this
  refine ⟨hc, ⟨fun l hl => by have := hL.bd l hl; omega, hL.room⟩, hlen, fun t ht => ?_⟩
  obtain ⟨b0, b1⟩ := sy_bd (hg t ht)
  exact hL.has _ (by rw [cT_len]; omega) (cT_pos (List.mem_map_of_mem ht) b0 b1)
theorem packed_ok {R : List Int} {w : Nat} (hw : 1 ≤ w ∧ w ≤ 256) (hb : ∀ x ∈ R, 0 ≤ x ∧ x ≤ 255) (hR : R.length ≤ 1000) {ts : List Tk} (hts : Fd R w 0 ts) (M : List Cn) :
    Fx (fun a _ => a = .new (.lst ((byL (padB (pkB (lnT ts) ts))).map D.int))) (fun _ _ => False) (m_packed_body [.lst (R.map D.int), .int (w : Int)] M) := by
  obtain ⟨hg, htl, _⟩ := Fd.good hw hb (Nat.zero_le _) hts
  obtain ⟨hc, hLn, hll, hpos⟩ := lnT_ok hg (by omega)
  walk_at "fx"; unfold b_packed_body
  walk_at "w"
  refine fo_use (found_ok hw hb hR M) ?_
  rintro _ M' ⟨ts', hts', rfl, rfl⟩
  obtain rfl := Fd.same hts' hts
  walk_at "w"
  refine fo_eq (counts_of_ok hg _) ?_
  walk_at "w"
  refine fx_use (least_lengths_ok hc _) ?_ (fun _ _ h => h.elim)
  rintro _ M1 rfl
  rw [show lenBy ((cT (ts'.map sy)).length : Int) (cT (ts'.map sy)) (paper ((cT (ts'.map sy)).length : Int) (fpF 0 (cT (ts'.map sy)))) = lnT ts' from rfl]
  generalize lnT ts' = ls at *
  walk_at "w"
  refine fo_eq (winit_ok M1) ?_
  refine ⟨rfl, ?_⟩
  have h2 := app_two M1 (oW (M1.length + 1) []) (lW [])
  rw [← h2.self (a := oW (M1.length + 1) []) (l := lW []) (app_at M1 _ _) (app_at1 M1 _ _ _)]
  generalize M1 ++ [oW (M1.length + 1) [], lW []] = MM at *
  generalize M1.length = k at *
  have hsz := taB_len ls
  walk_at "w"
  refine w_forN (fun i s => ∃ e5 : Option Ent, s = ⟨[some (.fz (.lst (R.map D.int))), some (.fz (.int (w : Int))), some (.fz (.lst (ts'.map tk))), some (.fz (.lst (ls.map D.int))), some (.fz (.cid k)), e5, none, none], st2 MM k (k + 1) (oW (k + 1) (taB (ls.take i))) (lW (taB (ls.take i)))⟩) ⟨_, rfl⟩ ?_ ?_
  · rintro i y s hi ⟨e5, rfl⟩
    obtain ⟨l, hl, rfl⟩ := map_get hi
    have hil : i < ls.length := (List.getElem?_eq_some_iff.mp hl).1
    have hlb := hLn.bd l (List.mem_of_getElem? hl)
    have hnx : ls.take (i + 1) = ls.take i ++ [l] := by rw [List.take_add_one, hl]; rfl
    have hsz2 := taB_len (ls.take i)
    rw [List.length_take] at hsz2
    rw [hnx, taB_snoc]
    walk_at "w"
    refine ⟨_, _, objAt_of h2.gk, rfl, ?_⟩
    walk_at "w"
    rw [show l = ((l.toNat : Nat) : Int) by omega]
    refine fx_eq (wput_ok h2 (x := l.toNat) (m := 4) (by omega) (by have : (2 : Nat) ^ 4 = 16 := rfl; omega) (by omega)) ?_
    walk_at "w"
    rw [Int.toNat_natCast]
    exact ⟨_, rfl⟩
  · rintro s ⟨e5, rfl⟩
    rw [List.length_map, List.take_length]
    walk_at "w"
    refine ⟨_, _, objAt_of h2.gk, rfl, ?_⟩
    walk_at "w"
    refine fx_eq (wfill_ok h2 (by omega)) ?_
    walk_at "w"
    refine fx_eq (words_ok (by omega) (by omega) hLn _) ?_
    walk_at "w"
    have hpl : (padB (taB ls)).length ≤ 140 := by
      show (taB ls ++ List.replicate (padd (taB ls).length) false).length ≤ 140
      rw [List.length_append, List.length_replicate]
      unfold padd
      omega
    refine w_forN (fun i s => ∃ (e7 : Option Ent) (a6 : Ent), (a6 = .fz (.lst ((List.range ls.length).map (wrd ls))) ∨ a6 = .ow (.lst ((List.range ls.length).map (wrd ls)))) ∧ s = ⟨[some (.fz (.lst (R.map D.int))), some (.fz (.int (w : Int))), some (.fz (.lst (ts'.map tk))), some (.fz (.lst (ls.map D.int))), some (.fz (.cid k)), e5, some a6, e7], st2 MM k (k + 1) (oW (k + 1) (padB (taB ls) ++ tsB ls (ts'.take i))) (lW (padB (taB ls) ++ tsB ls (ts'.take i)))⟩) ⟨_, _, .inr rfl, by rw [show tsB ls (ts'.take 0) = [] from rfl, List.append_nil]⟩ ?_ ?_
    · rintro i y s hi ⟨e7, a6, h6, rfl⟩
      obtain ⟨t, ht, rfl⟩ := map_get hi
      have hil : i < ts'.length := (List.getElem?_eq_some_iff.mp ht).1
      have hgt := hg t (List.mem_of_getElem? ht)
      have hbl := tsB_len hLn (ts'.take i)
      rw [List.length_take] at hbl
      rcases h6 with rfl | rfl
      · walk_at "w"
        refine fx_eq (put_token_ok h2 hLn hll hgt (hpos t (List.mem_of_getElem? ht)) (by rw [List.length_append]; omega)) ?_
        walk_at "w"
        rw [List.append_assoc (padB (taB ls)) (tsB ls (ts'.take i)) (tkB ls t), ← tsB_snoc, ← take_snoc' ht]
        exact ⟨_, _, .inl rfl, rfl⟩
      · walk_at "w"
        refine fx_eq (put_token_ok h2 hLn hll hgt (hpos t (List.mem_of_getElem? ht)) (by rw [List.length_append]; omega)) ?_
        walk_at "w"
        rw [List.append_assoc (padB (taB ls)) (tsB ls (ts'.take i)) (tkB ls t), ← tsB_snoc, ← take_snoc' ht]
        exact ⟨_, _, .inl rfl, rfl⟩
    · rintro s ⟨e7, a6, h6, rfl⟩
      rw [List.length_map, List.take_length]
      have hbl := tsB_len hLn ts'
      walk_at "w"
      refine ⟨_, _, objAt_of h2.gk, rfl, ?_⟩
      walk_at "w"
      refine fo_eq (wrow_ok h2 (by rw [List.length_append]; omega)) ?_
      walk_at "w"
      exact rfl
theorem pk_len {ls : List Int} (hl : ls.length = 33) (ts : List Tk) : 17 ≤ (byL (padB (pkB ls ts))).length := by
  have h1 := (rsL_len (padB (pkB ls ts))).2
  have h2 : 136 ≤ (padB (pkB ls ts)).length := by
    show 136 ≤ (pkB ls ts ++ _).length
    rw [List.length_append]
    unfold pkB
    show 136 ≤ ((taB ls ++ List.replicate (padd (taB ls).length) false) ++ tsB ls ts).length + _
    rw [List.length_append, List.length_append, List.length_replicate, taB_len, hl]
    unfold padd
    omega
  omega
/-- the kind and the body -/
noncomputable def bdK (R : List Int) (ts : List Tk) : Int := if (byL (padB (pkB (lnT ts) ts))).length < R.length then 1 else 0
noncomputable def bdB (R : List Int) (ts : List Tk) : List Int := if (byL (padB (pkB (lnT ts) ts))).length < R.length then byL (padB (pkB (lnT ts) ts)) else R
theorem body_of_ok {R : List Int} {w : Nat} (hw : 1 ≤ w ∧ w ≤ 256) (hb : ∀ x ∈ R, 0 ≤ x ∧ x ≤ 255) (hR : R.length ≤ 1000) {ts : List Tk} (hts : Fd R w 0 ts) (M : List Cn) :
    Fx (fun a _ => a = .val (.tup [.int (bdK R ts), .lst ((bdB R ts).map D.int)])) (fun _ _ => False) (m_body_of [.lst (R.map D.int), .int (w : Int)] M) := by
  obtain ⟨hg, htl, _⟩ := Fd.good hw hb (Nat.zero_le _) hts
  obtain ⟨_, _, hll, _⟩ := lnT_ok hg (by omega)
  have h17 := pk_len hll ts
  unfold bdK bdB
  walk_at "fx"; unfold b_body_of
  walk_at "w"
  rw [List.length_map]
  refine z_if (fun hc => ?_) (fun hc => ?_)
  · walk_at "w"
    refine fx_use (packed_ok hw hb hR hts M) ?_ (fun _ _ h => h.elim)
    rintro _ M' rfl
    walk_at "w"
    rw [List.length_map, List.length_map]
    refine z_if (fun hc2 => ?_) (fun hc2 => ?_)
    · rw [if_pos (by omega), if_pos (by omega)]
      walk_at "w"
      exact rfl
    · rw [if_neg (by omega), if_neg (by omega)]
      walk_at "w"
      exact rfl
  · rw [if_neg (by omega), if_neg (by omega)]
    walk_at "w"
    exact rfl
noncomputable def pcT (x n : Int) (R : List Int) (ts : List Tk) : List Int := [bdK R ts, x, n, (R.length : Int)] ++ bdB R ts
noncomputable def pcR (x n : Int) (R : List Int) (ts : List Tk) : List Int := [165, 90] ++ pcT x n R ts ++ crcB (pcT x n R ts)
theorem bd_byt {R : List Int} (hb : ∀ x ∈ R, 0 ≤ x ∧ x ≤ 255) (ts : List Tk) : Z.Byt (bdB R ts) ∧ (bdB R ts).length ≤ R.length ∧ (bdK R ts = 0 ∨ bdK R ts = 1) := by
  unfold bdB bdK
  split
  · exact ⟨fun x hx => by have := byL_bd _ x hx; omega, by omega, .inr rfl⟩
  · exact ⟨fun x hx => by have := hb x hx; omega, Nat.le_refl _, .inl rfl⟩
theorem pcT_byt {x n : Int} {R : List Int} (hx : 0 ≤ x ∧ x ≤ 255) (hn : 0 ≤ n ∧ n ≤ 255) (hb : ∀ x ∈ R, 0 ≤ x ∧ x ≤ 255) (hR : R.length ≤ 255) (ts : List Tk) : Z.Byt (pcT x n R ts) := fun y hy => by
  obtain ⟨h1, _, h3⟩ := bd_byt hb ts
  unfold pcT at hy
  rcases List.mem_append.mp hy with hy | hy
  · simp at hy
    rcases hy with rfl | rfl | rfl | rfl
    · omega
    · omega
    · omega
    · omega
  · exact h1 y hy
theorem piece_row_ok {x n : Int} {R : List Int} {w : Nat} (hx : 0 ≤ x ∧ x ≤ 255) (hn : 0 ≤ n ∧ n ≤ 255) (hw : 1 ≤ w ∧ w ≤ 256) (hb : ∀ x ∈ R, 0 ≤ x ∧ x ≤ 255) (hR : R.length ≤ 255) {ts : List Tk} (hts : Fd R w 0 ts) (M : List Cn) :
    Fx (fun a _ => a = .new (.lst ((pcR x n R ts).map D.int))) (fun _ _ => False) (m_piece_row [.int x, .int n, .lst (R.map D.int), .int (w : Int)] M) := by
  have hbyt := pcT_byt hx hn hb hR ts
  obtain ⟨_, hbl, _⟩ := bd_byt hb ts
  walk_at "fx"; unfold b_piece_row
  walk_at "w"
  refine fx_use (body_of_ok hw hb (by omega) hts M) ?_ (fun _ _ h => h.elim)
  rintro _ M' rfl
  walk_at "w"
  rw [List.length_map]
  refine w_addL rfl rfl rfl (by rw [List.length_map]; show 4 + _ ≤ 16777216; omega) ?_
  rw [show [D.int (bdK R ts), .int x, .int n, .int (R.length : Int)] ++ (bdB R ts).map D.int = (pcT x n R ts).map D.int by unfold pcT; rw [List.map_append]; rfl]
  have hpl : (pcT x n R ts).length ≤ 300 := by unfold pcT; rw [List.length_append]; show 4 + _ ≤ 300; omega
  unfold pcR
  generalize pcT x n R ts = told at *
  walk_at "w"
  refine w_addL (l := [165, 90].map D.int) (l' := told.map D.int) rfl rfl rfl (by rw [List.length_map, List.length_map]; show 2 + _ ≤ 16777216; omega) ?_
  rw [← List.map_append]
  walk_at "w"
  refine fo_eq (crc_row_ok hbyt _) ?_
  walk_at "w"
  refine w_addL rfl rfl rfl (by rw [List.length_map, List.length_map, List.length_append, crcB_len]; show 2 + _ + 2 ≤ 16777216; omega) ?_
  rw [← List.map_append]
  walk_at "w"
  exact rfl

/-! ### bits as texts of the law -/
def ch (b : Bool) : Nat := if b then 49 else 48
def bS (B : List Bool) : Str := tx (B.map ch)
theorem bS_cat (A B : List Bool) : bS A ++ bS B = bS (A ++ B) := by unfold bS; rw [tx_cat, List.map_append]
theorem bS_len (B : List Bool) : (bS B).length = B.length := by unfold bS; rw [tx_len, List.length_map]
theorem str_bit (b : Bool) : (toString (b2i b) : Str) = bS [b] := by cases b <;> decide +kernel
theorem tx_lit (s : String) (l : List Nat) (h : Str.ofString s = tx l) : Str.ofString s = tx l := h
theorem bit_low (x k : Nat) : Builtin.bitAnd ((x : Int) / 2 ^ ((k : Int)).toNat) 1 = b2i (x.testBit k) := by rw [Int.toNat_natCast]; exact bit_and
theorem bitsN_cons (x n : Nat) : bitsN x (n + 1) = x.testBit n :: bitsN x n := rfl
theorem w_addB {s : Stt} {QA : AI → Stt → Prop} {X : Exn → Stt → Prop} {A B : List Bool} (c : A.length + B.length ≤ sizeLine) (h : QA (.val (.str (bS (A ++ B)))) s) : Wo QA X (fAdd s (.val (.str (bS A))) (.val (.str (bS B)))) := by
  refine w_addS (by rw [bS_len, bS_len]; exact c) ?_
  rw [bS_cat]; exact h
theorem w_strI {s : Stt} {QA : AI → Stt → Prop} {X : Exn → Stt → Prop} {b : Bool} (h : QA (.val (.str (bS [b]))) s) : Wo QA X (fStr s [.val (.int (b2i b))]) := by
  unfold fStr
  simp only []
  rw [if_pos (by cases b <;> decide +kernel)]
  rw [str_bit]; exact h
theorem l_bits_ok {x m : Nat} (hm : m ≤ 1000) (M : List Cn) : m_l_bits [.int (x : Int), .int (m : Int)] M = .ok (.val (.str (bS (bitsN x m)))) M := by
  refine fo_ok (P := fun _ _ => True) ?_
  walk_at "f0"; unfold b_l_bits
  walk_at "w"
  refine w_forN (fun i s => ∃ e3 : Option Ent, s = ⟨[some (.fz (.int (x : Int))), some (.fz (.int (m : Int))), some (.fz (.str (bS (bitsN x i)))), e3], M⟩) ⟨_, rfl⟩ ?_ ?_
  · rintro i y s hi ⟨e3, rfl⟩
    obtain ⟨hi, rfl⟩ := rng_get hi
    have hi : i < m := by omega
    have hb := bit_low x i
    rw [bitsN_cons]
    walk_at "w"
    rw [show (0 + (i : Int)) = (i : Int) by omega, hb]
    refine w_strI ?_
    walk_at "w"
    refine w_addB (by rw [bitsN_len]; show 1 + _ ≤ 16777216; omega) ?_
    walk_at "w"
    exact ⟨_, rfl⟩
  · rintro s ⟨e3, rfl⟩
    rw [rng_len, Int.toNat_natCast]
    walk_at "w"
    exact ⟨rfl, rfl⟩
theorem rgc8 {n : Nat} (h : n ≤ 10000) : RgC 0 ((8 * n : Nat) : Int) 8 n := by
  refine ⟨by decide, by decide, ?_, ?_⟩
  · have f : ∀ x : Int, -1000000 ≤ x → x ≤ 1000000 → Builtin.Range.rangeFitsLong x = true := fun x h1 h2 => by unfold Builtin.Range.rangeFitsLong; simp; omega
    have hs : 0 ≤ Builtin.Range.rangeSize 0 ((8 * n : Nat) : Int) 8 ∧ Builtin.Range.rangeSize 0 ((8 * n : Nat) : Int) 8 ≤ 10000 := by unfold Builtin.Range.rangeSize; rw [if_pos (by decide)]; split <;> omega
    unfold Builtin.Range.small
    rw [f _ (by omega) (by omega), f _ (by omega) (by omega), f _ (by omega) (by omega), f _ (by omega) (by omega), if_pos (by decide), f _ (by omega) (by omega), Bool.or_true]; rfl
  · unfold Builtin.Range.rangeSize
    rw [if_pos (by decide)]
    split
    · omega
    · omega
theorem byL_app {A C : List Bool} (hA : A.length % 8 = 0) (hC : C.length = 8) : byL (A ++ C) = byL A ++ [val C] := by
  revert hA
  refine ind8 (P := fun A => A.length % 8 = 0 → byL (A ++ C) = byL A ++ [val C]) (fun B h hA => ?_) (fun a b c d e f g i r h hA => ?_) A
  · have : B = [] := List.length_eq_zero_iff.mp (by omega)
    subst this
    obtain ⟨a, b, c, d, e, f, g, i, r, rfl⟩ := cut8 (B := C) (by omega)
    have : r = [] := by simp at hC; exact hC
    subst this
    rfl
  · show val [a, b, c, d, e, f, g, i] :: byL (r ++ C) = val [a, b, c, d, e, f, g, i] :: byL r ++ [val C]
    rw [h (by simp at hA; omega)]; rfl
theorem mul0 : ∀ n < 8, Txt.mul (Str.ofString "0") (n : Nat) = bS (List.replicate n false) := by decide +kernel
theorem pad_i (n : Nat) : (0 - (n : Int)) % 8 = ((padd n : Nat) : Int) := by unfold padd; omega
theorem bS_cut (B : List Bool) (a b : Nat) : cutS (bS B) (some (a : Int)) (some (b : Int)) = bS ((B.drop a).take (b - a)) := by
  unfold bS
  rw [tx_cut, cutL_part _ (by omega) (by omega), Int.toNat_natCast, Int.toNat_natCast, List.map_take, List.map_drop]
theorem bS_strL (B : List Bool) : strL (bS B) = B.map fun b => .str (bS [b]) := by
  unfold bS
  rw [tx_strL, List.map_map]; rfl
theorem w_lenB {s : Stt} {QA : AI → Stt → Prop} {X : Exn → Stt → Prop} {B : List Bool} (c : B.length ≤ sizeLine) (h : QA (.val (.int (B.length : Nat))) s) : Wo QA X (fLen s [.val (.str (bS B))]) := by
  unfold bS
  refine w_lenT (by rw [List.length_map]; exact c) ?_
  rw [List.length_map]; exact h
theorem w_slB {s : Stt} {QA : AI → Stt → Prop} {X : Exn → Stt → Prop} {B : List Bool} {a b : Nat} (c : B.length ≤ sizeLine) (h : QA (.val (.str (bS ((B.drop a).take (b - a))))) s) : Wo QA X (fSl s (.val (.str (bS B))) (some (a : Int)) (some (b : Int))) := by
  refine w_slS (by rw [bS_len]; exact c) ?_
  rw [bS_cut]; exact h
theorem l_bytes_ok {B : List Bool} (hB : B.length ≤ 50000) (M : List Cn) : m_l_bytes [.str (bS B)] M = .ok (.new (.lst ((byL (padB B)).map D.int))) M := by
  refine fo_ok (P := fun _ _ => True) ?_
  walk_at "f0"; unfold b_l_bytes
  have hpd : padd B.length < 8 := by unfold padd; omega
  have hpl : (padB B).length = B.length + padd B.length := by show (B ++ _).length = _; rw [List.length_append, List.length_replicate]
  obtain ⟨n, hn⟩ : ∃ n, (padB B).length = 8 * n := ⟨(B.length + padd B.length) / 8, by rw [hpl]; unfold padd; omega⟩
  walk_at "w"
  refine w_lenB (by show _ ≤ 16777216; omega) ?_
  walk_at "w"
  rw [pad_i]
  refine w_mulS ⟨by decide +kernel, by omega, by omega⟩ ?_
  rw [mul0 _ hpd]
  refine w_addB (by rw [List.length_replicate]; show _ ≤ 16777216; omega) ?_
  rw [show B ++ List.replicate (padd B.length) false = padB B from rfl]
  generalize padB B = A at *
  walk_at "w"
  refine w_lenB (by show _ ≤ 16777216; omega) ?_
  walk_at "w"
  rw [hn]
  refine ⟨_, _, _, n, rfl, rgc8 (by omega), ?_⟩
  refine w_forN (fun i s => ∃ e2 e3 e4 : Option Ent, s = ⟨[some (.fz (.str (bS A))), some (.ow (.lst ((byL (A.take (8 * i))).map D.int))), e2, e3, e4], M⟩) ⟨_, _, _, rfl⟩ ?_ ?_
  · rintro i y s hi ⟨e2, e3, e4, rfl⟩
    obtain ⟨hi, rfl⟩ := rngC_get hi
    have hC : ((A.drop (8 * i)).take 8).length = 8 := by rw [List.length_take, List.length_drop]; omega
    have hT : (A.take (8 * i)).length = 8 * i := by rw [List.length_take]; omega
    have hnx : byL (A.take (8 * (i + 1))) = byL (A.take (8 * i)) ++ [val ((A.drop (8 * i)).take 8)] := by
      rw [show 8 * (i + 1) = 8 * i + 8 by omega, List.take_add, byL_app (by omega) hC]
    have hbl := (rsL_len (A.take (8 * i))).2
    rw [hnx]
    walk_at "w"
    rw [show (0 : Int) + (i : Int) * 8 = ((8 * i : Nat) : Int) by omega, show ((8 * i : Nat) : Int) + 8 = ((8 * i + 8 : Nat) : Int) by omega]
    refine w_slB (by show _ ≤ 16777216; omega) ?_
    rw [show 8 * i + 8 - 8 * i = 8 by omega]
    generalize (A.drop (8 * i)).take 8 = C at *
    walk_at "w"
    rw [bS_strL]
    refine w_forN (fun j s => ∃ e4 : Option Ent, s = ⟨[some (.fz (.str (bS A))), some (.ow (.lst ((byL (A.take (8 * i))).map D.int))), some (.fz (.int ((8 * i : Nat) : Int))), some (.fz (.int (val (C.take j)))), e4], M⟩) ⟨_, rfl⟩ ?_ ?_
    · rintro j y s hj ⟨e4, rfl⟩
      obtain ⟨b, hb, rfl⟩ := map_get hj
      have hv : val (C.take (j + 1)) = 2 * val (C.take j) + b2i b := by
        rw [List.take_add_one, hb]; exact val_snoc _ _
      rw [hv]
      have he : decide (bS [b] = Str.ofString "1") = b := by cases b <;> decide +kernel
      walk_at "w"
      refine w_eqS (by cases b <;> decide +kernel) (by decide +kernel) ?_
      rw [he]
      walk_at "w"
      exact ⟨_, rfl⟩
    · rintro s ⟨e4, rfl⟩
      rw [List.length_map, List.take_length]
      walk_at "w"
      refine w_app rfl (by rw [List.length_map]; show _ < 16777216; omega) ?_
      walk_at "ds"
      rw [List.map_append]
      exact ⟨_, _, _, rfl⟩
  · rintro s ⟨e2, e3, e4, rfl⟩
    rw [rngC_len, List.take_of_length_le (by omega)]
    walk_at "w"
    exact ⟨rfl, rfl⟩

/-! ### the law's own packing -/
theorem l_symbols_ok {ts : List Tk} (hl : ts.length ≤ 1000) (M : List Cn) : m_l_symbols [.lst (ts.map tk)] M = .ok (.new (.lst ((ts.map sy).map D.int))) M := by
  refine fo_ok (P := fun _ _ => True) ?_
  walk_at "f0"; unfold b_l_symbols
  walk_at "w"
  refine w_forN (fun i s => ∃ e2 : Option Ent, s = ⟨[some (.fz (.lst (ts.map tk))), some (.ow (.lst (((ts.take i).map sy).map D.int))), e2], M⟩) ⟨_, rfl⟩ ?_ ?_
  · rintro i y s hi ⟨e2, rfl⟩
    obtain ⟨t, ht, rfl⟩ := map_get hi
    have hil : i < ts.length := (List.getElem?_eq_some_iff.mp ht).1
    rw [take_snoc' ht, List.map_append, List.map_append]
    cases t with
    | byte b =>
      walk_at "w"
      refine w_ixT (d := .int b) rfl rfl rfl rfl rfl ?_
      walk_at "w"
      refine w_ixT (d := .str (Str.ofString "byte")) rfl rfl rfl rfl rfl ?_
      walk_at "w"
      rw [show (if decide (Str.ofString "byte" = Str.ofString "byte") = true then (1 : Int) else 0) = 1 by decide +kernel]
      refine w_ixL (d := .int (b / 8)) rfl rfl rfl rfl ?_
      walk_at "w"
      refine w_app rfl (by rw [List.length_map, List.length_map, List.length_take]; show _ < 16777216; omega) ?_
      walk_at "ds"
      exact ⟨_, rfl⟩
    | back d l =>
      walk_at "w"
      refine w_ixT (d := .int d) rfl rfl rfl rfl rfl ?_
      walk_at "w"
      refine w_ixT (d := .str (Str.ofString "back")) rfl rfl rfl rfl rfl ?_
      walk_at "w"
      rw [show (if decide (Str.ofString "back" = Str.ofString "byte") = true then (1 : Int) else 0) = 0 by decide +kernel]
      refine w_ixL (d := .int 32) rfl rfl rfl rfl ?_
      walk_at "w"
      refine w_app rfl (by rw [List.length_map, List.length_map, List.length_take]; show _ < 16777216; omega) ?_
      walk_at "ds"
      exact ⟨_, rfl⟩
  · rintro s ⟨e2, rfl⟩
    rw [List.length_map, List.take_length]
    walk_at "w"
    exact ⟨rfl, rfl⟩
theorem zip_tk (ts : List Tk) : zipL ((ts.map sy).map D.int) (ts.map tk) = ts.map fun t => .tup [.int (sy t), tk t] := by
  unfold zipL
  induction ts with
  | nil => rfl
  | cons t ts ih => rw [List.map_cons, List.map_cons, List.map_cons, List.zip_cons_cons, List.map_cons, ih]; rfl
theorem join_bits (Bs : List (List Bool)) : Txt.join (Str.ofString "") (Bs.map bS) = bS Bs.flatten := by
  have e : Str.ofString "" = tx [] := by decide +kernel
  rw [e, show Bs.map bS = (Bs.map fun B => B.map ch).map tx by rw [List.map_map]; rfl, tx_join0]
  unfold bS
  rw [List.map_flatten]
theorem strs_bits (Bs : List (List Bool)) : strsD (Bs.map fun B => D.str (bS B)) = some (Bs.map bS) := by
  rw [show (Bs.map fun B => D.str (bS B)) = (Bs.map bS).map D.str by rw [List.map_map]; rfl]
  exact strsD_map _
theorem pad_ta {ls : List Int} (hl : ls.length = 33) : padB (taB ls) = taB ls ++ [false, false, false, false] := by
  show taB ls ++ List.replicate (padd (taB ls).length) false = _
  rw [taB_len, hl]; rfl
theorem l_packed_ok {R : List Int} {w : Nat} (hw : 1 ≤ w ∧ w ≤ 256) (hb : ∀ x ∈ R, 0 ≤ x ∧ x ≤ 255) (hR : R.length ≤ 1000) {ts : List Tk} (hts : Fd R w 0 ts) (M : List Cn) :
    Fo (fun a _ => a = .new (.lst ((byL (padB (pkB (lnT ts) ts))).map D.int))) (m_l_packed [.lst (R.map D.int), .int (w : Int)] M) := by
  obtain ⟨hg, htl, _⟩ := Fd.good hw hb (Nat.zero_le _) hts
  obtain ⟨hc, hLn, hll, hpos⟩ := lnT_ok hg (by omega)
  walk_at "f0"; unfold b_l_packed
  walk_at "w"
  refine fo_use (found_ok hw hb hR M) ?_
  rintro _ M' ⟨ts', hts', rfl, rfl⟩
  obtain rfl := Fd.same hts' hts
  walk_at "w"
  refine fo_eq (l_symbols_ok (by omega) _) ?_
  walk_at "w"
  refine w_lcMap (fun d => match d with | .int s => .int (((ts'.map sy).count s : Nat) : Int) | d => d) ?_ ?_ ?_
  · rw [rng_len]; show 33 ≤ 16777216; decide
  · intro x hx
    obtain ⟨k, hk⟩ := List.mem_iff_getElem?.mp hx
    obtain ⟨hk, rfl⟩ := rng_get hk
    walk_at "w"
    refine w_cntI rfl ?_
    walk_at "w"
    exact ⟨rfl, rfl⟩
  have e : (rng 0 (33 : Int).toNat).map (fun d => match d with | .int s => D.int (((ts'.map sy).count s : Nat) : Int) | d => d) = (cT (ts'.map sy)).map D.int := by
    unfold rng cT
    rw [List.map_map, List.map_map]
    refine List.map_congr_left fun s _ => ?_
    show D.int (((ts'.map sy).count (0 + (s : Int)) : Nat) : Int) = _
    rw [Int.zero_add]; rfl
  rw [e]
  walk_at "ds"
  walk_at "w"
  refine fo_use (fx_fo (least_lengths_ok hc _)) ?_
  rintro _ M1 rfl
  rw [show lenBy ((cT (ts'.map sy)).length : Int) (cT (ts'.map sy)) (paper ((cT (ts'.map sy)).length : Int) (fpF 0 (cT (ts'.map sy)))) = lnT ts' from rfl]
  generalize lnT ts' = ls at *
  walk_at "w"
  refine fo_eq (words_ok (by omega) (by omega) hLn _) ?_
  walk_at "w"
  refine w_lcMap (fun d => match d with | .int l => .str (bS (bitsN l.toNat 4)) | d => d) ?_ ?_ ?_
  · rw [List.length_map]; show _ ≤ 16777216; omega
  · intro x hx
    obtain ⟨l, hl, rfl⟩ := List.mem_map.mp hx
    have hlb := hLn.bd l hl
    walk_at "w"
    have := l_bits_ok (x := l.toNat) (m := 4) (by omega) M1
    rw [show ((l.toNat : Nat) : Int) = l by omega] at this
    refine fo_eq this ?_
    walk_at "w"
    exact ⟨rfl, rfl⟩
  have e2 : (ls.map D.int).map (fun d => match d with | .int l => D.str (bS (bitsN l.toNat 4)) | d => d) = (ls.map fun l => bitsN l.toNat 4).map fun B => D.str (bS B) := by
    rw [List.map_map, List.map_map]; rfl
  rw [e2]
  walk_at "ds"
  walk_at "w"
  refine ⟨_, by show (some _).bind strsD = _; exact strs_bits _, ?_, ?_⟩
  · have hsl : (((ls.map fun l => bitsN l.toNat 4).map bS).map fun s => s.length).sum = 4 * ls.length := by
      rw [List.map_map, List.map_map]
      clear hpos hll hLn e2
      induction ls with
      | nil => rfl
      | cons l ls ih =>
        rw [List.map_cons, List.sum_cons, ih, List.length_cons]
        show (bS (bitsN l.toNat 4)).length + _ = _
        rw [bS_len, bitsN_len]; omega
    rw [hsl, show (Str.ofString "").length = 0 from by decide +kernel, List.length_map, List.length_map]
    omega
  rw [join_bits, show (ls.map fun l => bitsN l.toNat 4).flatten = taB ls from rfl]
  have h0 : Str.ofString "0000" = bS [false, false, false, false] := by decide +kernel
  rw [h0]
  walk_at "w"
  refine w_addB (by rw [taB_len]; show _ + 4 ≤ 16777216; omega) ?_
  rw [← pad_ta hll]
  walk_at "w"
  rw [zip_tk]
  have hpl : (padB (taB ls)).length ≤ 140 := by rw [pad_ta hll, List.length_append, taB_len]; show _ + 4 ≤ 140; omega
  refine w_forN (fun i s => ∃ e7 e8 : Option Ent, s = ⟨[some (.fz (.lst (R.map D.int))), some (.fz (.int (w : Int))), some (.fz (.lst (ts'.map tk))), some (.fz (.lst ((ts'.map sy).map D.int))), some (.fz (.lst (ls.map D.int))), some (.ow (.lst ((List.range ls.length).map (wrd ls)))), some (.fz (.str (bS (padB (taB ls) ++ tsB ls (ts'.take i))))), e7, e8, none], M1⟩) ⟨none, none, by rw [show tsB ls (ts'.take 0) = [] from rfl, List.append_nil]; rfl⟩ ?_ ?_
  · rintro i y s hi ⟨e7, e8, rfl⟩
    obtain ⟨t, ht, rfl⟩ := map_get hi
    have hil : i < ts'.length := (List.getElem?_eq_some_iff.mp ht).1
    have hgt := hg t (List.mem_of_getElem? ht)
    have hs := hpos t (List.mem_of_getElem? ht)
    have hbl := tsB_len hLn (ts'.take i)
    rw [List.length_take] at hbl
    have hfin : padB (taB ls) ++ tsB ls (ts'.take (i + 1)) = padB (taB ls) ++ tsB ls (ts'.take i) ++ tkB ls t := by
      rw [take_snoc' ht, tsB_snoc, ← List.append_assoc]
    rw [hfin]
    have hCl : (padB (taB ls) ++ tsB ls (ts'.take i)).length ≤ 40000 := by rw [List.length_append]; omega
    generalize padB (taB ls) ++ tsB ls (ts'.take i) = C at *
    obtain ⟨b0, b1⟩ := sy_bd hgt
    have hwn := plc_mul hLn b0 (by omega) hs
    have hlb := hLn.at b0 (show sy t < ls.length by omega)
    have hat : atI ((List.range ls.length).map (wrd ls)) (sy t) = some (tP (ls.getD (sy t).toNat 0, wordN ls (sy t))) := by
      rw [atI_nn b0, List.getElem?_map, List.getElem?_range (by omega)]
      show some (wrd ls (sy t).toNat) = _
      unfold wrd
      rw [if_pos hs, show (((sy t).toNat : Nat) : Int) = sy t by omega]
    have hbits := l_bits_ok (x := (wordN ls (sy t)).toNat) (m := (ls.getD (sy t).toNat 0).toNat) (by omega) M1
    rw [show (((wordN ls (sy t)).toNat : Nat) : Int) = wordN ls (sy t) by omega, show (((ls.getD (sy t).toNat 0).toNat : Nat) : Int) = ls.getD (sy t).toNat 0 by omega] at hbits
    walk_at "w"
    refine w_ixL (d := tP (ls.getD (sy t).toNat 0, wordN ls (sy t))) rfl rfl rfl hat ?_
    walk_at "w"
    refine w_ixT (d := .int (wordN ls (sy t))) rfl rfl rfl rfl rfl ?_
    walk_at "w"
    refine w_ixL (d := tP (ls.getD (sy t).toNat 0, wordN ls (sy t))) rfl rfl rfl hat ?_
    walk_at "w"
    refine w_ixT (d := .int (ls.getD (sy t).toNat 0)) rfl rfl rfl rfl rfl ?_
    walk_at "w"
    refine fo_eq hbits ?_
    walk_at "w"
    refine w_addB (by rw [bitsN_len]; show _ ≤ 16777216; omega) ?_
    unfold tkB
    rw [← List.append_assoc C]
    have hC2 : (C ++ bitsN (wordN ls (sy t)).toNat (ls.getD (sy t).toNat 0).toNat).length ≤ 41000 := by rw [List.length_append, bitsN_len]; omega
    generalize C ++ bitsN (wordN ls (sy t)).toNat (ls.getD (sy t).toNat 0).toNat = C2 at *
    cases t with
    | byte b =>
      obtain ⟨g0, g1⟩ := hgt
      have hne : ¬ sy (.byte b) = 32 := by show ¬ b / 8 = 32; omega
      walk_at "w"
      refine w_ixT (d := .int b) rfl rfl rfl rfl rfl ?_
      walk_at "w"
      have hb3 := l_bits_ok (x := (b % 8).toNat) (m := 3) (by omega) M1
      rw [show (((b % 8).toNat : Nat) : Int) = b % 8 by omega] at hb3
      refine fo_eq hb3 ?_
      walk_at "w"
      refine w_addB (by rw [bitsN_len]; show _ ≤ 16777216; omega) ?_
      walk_at "w"
      exact ⟨_, _, rfl⟩
    | back d l =>
      obtain ⟨g0, g1, g2, g3⟩ := hgt
      walk_at "w"
      refine z_ifY rfl ?_
      walk_at "w"
      refine w_ixT (d := .int d) rfl rfl rfl rfl rfl ?_
      walk_at "w"
      have hb8 := l_bits_ok (x := (d - 1).toNat) (m := 8) (by omega) M1
      rw [show (((d - 1).toNat : Nat) : Int) = d - 1 by omega] at hb8
      refine fo_eq hb8 ?_
      walk_at "w"
      refine w_addB (by rw [bitsN_len]; show _ ≤ 16777216; omega) ?_
      walk_at "w"
      refine w_ixT (d := .int l) rfl rfl rfl rfl rfl ?_
      walk_at "w"
      have hb4 := l_bits_ok (x := (l - 1).toNat) (m := 4) (by omega) M1
      rw [show (((l - 1).toNat : Nat) : Int) = l - 1 by omega] at hb4
      refine fo_eq hb4 ?_
      walk_at "w"
      refine w_addB (by rw [List.length_append, bitsN_len, bitsN_len]; show _ ≤ 16777216; omega) ?_
      rw [List.append_assoc]
      walk_at "w"
      exact ⟨_, _, rfl⟩
  · rintro s ⟨e7, e8, rfl⟩
    rw [List.length_map, List.take_length]
    have hbl := tsB_len hLn ts'
    walk_at "w"
    refine fo_eq (l_bytes_ok (B := padB (taB ls) ++ tsB ls ts') (by rw [List.length_append]; omega) M1) ?_
    walk_at "w"
    exact rfl

/-! ### the law's draws -/
structure Drw (M : List Cn) (k : Nat) : Prop where
  at_ : ∃ a b : Int, M[k]? = some (.lst [.int a, .int b])
/-- all but the draws stands as it stood -/
structure Kpt (M M' : List Cn) (k : Nat) : Prop where
  dr : Drw M' k
  len : M'.length = M.length
  oth : ∀ i, i ≠ k → M'[i]? = M[i]?
theorem Kpt.trans {M M' M'' : List Cn} {k : Nat} (h : Kpt M M' k) (h' : Kpt M' M'' k) : Kpt M M'' k := ⟨h'.dr, h'.len.trans h.len, fun i hi => (h'.oth i hi).trans (h.oth i hi)⟩
theorem Kpt.refl {M : List Cn} {k : Nat} (h : Drw M k) : Kpt M M k := ⟨h, rfl, fun _ _ => rfl⟩
theorem Drw.kept {M : List Cn} {k : Nat} (h : k < M.length) (a b : Int) : Kpt M (M.set k (.lst [.int a, .int b])) k := ⟨⟨a, b, List.getElem?_set_self h⟩, List.length_set, fun i hi => List.getElem?_set_ne (fun z => hi z.symm)⟩
theorem draw_ok (c : Int) (M : List Cn) : Fo (fun r M' => ∃ a b : Int, r = .new (.lst [.int a, .int b]) ∧ M' = M) (m_l_draw [.int c] M) := by
  walk_at "f0"; unfold b_l_draw
  walk_at "w"
  exact ⟨_, _, rfl, rfl⟩
theorem next_ok {M : List Cn} {k : Nat} (h : Drw M k) {z : Int} (hz : 0 < z) (hz2 : z < 1073741824) : Fo (fun r M' => ∃ x : Int, r = .val (.int x) ∧ 0 ≤ x ∧ x < z ∧ Kpt M M' k) (m_l_next [.cid k, .int z] M) := by
  obtain ⟨a, b, hM⟩ := h.at_
  have hk := (List.getElem?_eq_some_iff.mp hM).1
  walk_at "f0"; unfold b_l_next
  walk_at "w"
  refine w_ixL (l := [.int a, .int b]) (d := .int b) rfl (viewD_cid hM) (viewL_cid hM) rfl ?_
  walk_at "w"
  refine so_setLst (getC_cid hM) (j := 1) rfl ?_
  walk_at "ds"
  have hM1 : (M.set k (.lst [.int a, .int ((b * 48271 + 11) % 2147483647)]))[k]? = some (.lst [.int a, .int ((b * 48271 + 11) % 2147483647)]) := List.getElem?_set_self hk
  have hb0 : 0 ≤ (b * 48271 + 11) % 2147483647 ∧ (b * 48271 + 11) % 2147483647 < 2147483647 := by omega
  generalize (b * 48271 + 11) % 2147483647 = c at *
  walk_at "w"
  refine w_ixL (l := [.int a, .int c]) (d := .int a) rfl (viewD_cid hM1) (viewL_cid hM1) rfl ?_
  walk_at "w"
  refine z_if (fun ha => ?_) (fun ha => ?_)
  · walk_at "w"
    refine w_ixL (l := [.int a, .int c]) (d := .int a) rfl (viewD_cid hM1) (viewL_cid hM1) rfl ?_
    walk_at "w"
    refine w_ixL (l := [.int a, .int c]) (d := .int a) rfl (viewD_cid hM1) (viewL_cid hM1) rfl ?_
    walk_at "w"
    refine so_setLst (getC_cid hM1) (j := 0) rfl ?_
    walk_at "ds"
    rw [List.set_set]
    walk_at "w"
    exact ⟨_, rfl, Int.emod_nonneg _ (by omega), Int.emod_lt_of_pos _ hz, Drw.kept hk _ _⟩
  · walk_at "w"
    refine w_ixL (l := [.int a, .int c]) (d := .int c) rfl (viewD_cid hM1) (viewL_cid hM1) rfl ?_
    walk_at "w"
    refine w_ixL (l := [.int a, .int c]) (d := .int c) rfl (viewD_cid hM1) (viewL_cid hM1) rfl ?_
    walk_at "w"
    exact ⟨_, rfl, Int.emod_nonneg _ (by omega), Int.emod_lt_of_pos _ hz, Drw.kept hk _ _⟩

theorem l_due_ok {x n : Int} {R : List Int} {w : Nat} (hx : 0 ≤ x ∧ x ≤ 255) (hn : 0 ≤ n ∧ n ≤ 255) (hw : 1 ≤ w ∧ w ≤ 256) (hb : ∀ x ∈ R, 0 ≤ x ∧ x ≤ 255) (hR : R.length ≤ 255) {ts : List Tk} (hts : Fd R w 0 ts) (M : List Cn) :
    Fo (fun a _ => a = .new (.lst ((pcR x n R ts).map D.int))) (m_l_due [.int x, .int n, .lst (R.map D.int), .int (w : Int)] M) := by
  have hbyt := pcT_byt hx hn hb hR ts
  obtain ⟨_, hbl, _⟩ := bd_byt hb ts
  have hpl : (pcT x n R ts).length ≤ 300 := by unfold pcT; rw [List.length_append]; show 4 + _ ≤ 300; omega
  have hend : ∀ (M : List Cn) (told : List Int), Z.Byt told → told.length ≤ 300 → True := fun _ _ _ _ => trivial
  have hp0 : ¬ (byL (padB (pkB (lnT ts) ts))).length < R.length → pcT x n R ts = [0, x, n, (R.length : Int)] ++ R := fun hc => by unfold pcT bdK bdB; rw [if_neg hc, if_neg hc]
  have hp1 : (byL (padB (pkB (lnT ts) ts))).length < R.length → pcT x n R ts = [1, x, n, (R.length : Int)] ++ byL (padB (pkB (lnT ts) ts)) := fun hc => by unfold pcT bdK bdB; rw [if_pos hc, if_pos hc]
  have hpc : pcR x n R ts = [165, 90] ++ pcT x n R ts ++ crcB (pcT x n R ts) := rfl
  walk_at "f0"; unfold b_l_due
  walk_at "w"
  rw [List.length_map]
  refine w_addL rfl rfl rfl (by rw [List.length_map]; show 4 + _ ≤ 16777216; omega) ?_
  rw [show [D.int 0, .int x, .int n, .int (R.length : Int)] ++ R.map D.int = ([0, x, n, (R.length : Int)] ++ R).map D.int by rw [List.map_append]; rfl]
  walk_at "w"
  refine w_ne (Y.eqOf_ints (ns := R) (ms := []) rfl rfl (.inl rfl) (.inl rfl)) ?_
  have tail : ∀ (M : List Cn) (e5 : Option Ent), Ws (fun s => AI.val D.non = .new (.lst ((pcR x n R ts).map D.int))) (Oe fun a _ => a = .new (.lst ((pcR x n R ts).map D.int))) (mRet (mOp fAdd (mOp fAdd (mLst (vCons (mC (.int 165)) (vCons (mC (.int 90)) vNil))) (mName 4)) (mCallN m_l_sum (vCons (mName 4) vNil))) ⟨[some (.fz (.int x)), some (.fz (.int n)), some (.fz (.lst (R.map D.int))), some (.fz (.int (w : Int))), some (.ow (.lst ((pcT x n R ts).map D.int))), e5], M⟩) := fun M e5 => by
    rw [hpc]
    generalize pcT x n R ts = told at *
    walk_at "w"
    refine w_addL (l := [165, 90].map D.int) (l' := told.map D.int) rfl rfl rfl (by rw [List.length_map, List.length_map]; show 2 + _ ≤ 16777216; omega) ?_
    rw [← List.map_append]
    walk_at "w"
    refine fo_eq (l_sum_ok hbyt _) ?_
    walk_at "w"
    refine w_addL rfl rfl rfl (by rw [List.length_map, List.length_map, List.length_append, crcB_len]; show 2 + _ + 2 ≤ 16777216; omega) ?_
    rw [← List.map_append]
    walk_at "w"
    exact rfl
  by_cases hnil : R = []
  · walk_at "w"
    refine z_b0 (by rw [hnil]; rfl) ?_
    rw [← hp0 (by rw [hnil]; exact Nat.not_lt_zero _)]
    walk_at "w1"
    exact tail _ _
  · walk_at "w"
    refine z_b1 (by rw [decide_eq_false hnil]; rfl) ?_
    walk_at "w"
    refine fo_use (l_packed_ok hw hb (by omega) hts M) ?_
    rintro _ M' rfl
    walk_at "w"
    rw [List.length_map, List.length_map]
    refine z_if (fun hc => ?_) (fun hc => ?_)
    · walk_at "w"
      rw [List.length_map]
      refine w_addL rfl rfl rfl (by rw [List.length_map]; show 4 + _ ≤ 16777216; omega) ?_
      rw [show [D.int 1, .int x, .int n, .int (R.length : Int)] ++ (byL (padB (pkB (lnT ts) ts))).map D.int = ([1, x, n, (R.length : Int)] ++ byL (padB (pkB (lnT ts) ts))).map D.int by rw [List.map_append]; rfl]
      rw [← hp1 (by omega)]
      refine w_asgN ?_
      walk_at "ds"
      exact tail _ _
    · rw [← hp0 (by omega)]
      walk_at "w1"
      exact tail _ _

theorem row_drawn {M : List Cn} {k : Nat} (h : Drw M k) : Fo (fun r M' => ∃ R : List Int, r = .new (.lst (R.map D.int)) ∧ (∀ x ∈ R, 0 ≤ x ∧ x ≤ 255) ∧ R.length ≤ 255 ∧ Kpt M M' k) (m_l_row [.cid k] M) := by
  walk_at "f0"; unfold b_l_row
  walk_at "w"
  refine fo_use (next_ok h (z := 13) (by decide) (by decide)) ?_
  rintro _ M1 ⟨x, rfl, hx0, hx1, hk1⟩
  walk_at "w"
  refine w_ixI (ns := [0, 1, 2, 17, 18, 19, 20, 30, 60, 100, 180, 254, 255]) rfl rfl rfl hx0 (by show x < 13; omega) ?_
  have hsz : 0 ≤ ([0, 1, 2, 17, 18, 19, 20, 30, 60, 100, 180, 254, 255] : List Int).getD x.toNat 0 ∧ ([0, 1, 2, 17, 18, 19, 20, 30, 60, 100, 180, 254, 255] : List Int).getD x.toNat 0 ≤ 255 := by
    have : ∀ n < 13, 0 ≤ ([0, 1, 2, 17, 18, 19, 20, 30, 60, 100, 180, 254, 255] : List Int).getD n 0 ∧ ([0, 1, 2, 17, 18, 19, 20, 30, 60, 100, 180, 254, 255] : List Int).getD n 0 ≤ 255 := by decide +kernel
    exact this x.toNat (by omega)
  generalize ([0, 1, 2, 17, 18, 19, 20, 30, 60, 100, 180, 254, 255] : List Int).getD x.toNat 0 = sz at *
  walk_at "w"
  refine fo_use (next_ok hk1.dr (z := 6) (by decide) (by decide)) ?_
  rintro _ M2 ⟨wy, rfl, hw0, hw1, hk2⟩
  walk_at "w"
  refine fo_use (next_ok hk2.dr (z := 256) (by decide) (by decide)) ?_
  rintro _ M3 ⟨lo, rfl, hl0, hl1, hk3⟩
  have hkk := (hk1.trans hk2).trans hk3
  walk_at "w"
  refine w_forN (fun i s => ∃ (R : List Int) (M' : List Cn) (e6 : Option Ent), R.length = i ∧ (∀ x ∈ R, 0 ≤ x ∧ x ≤ 255) ∧ Kpt M M' k ∧ s = ⟨[some (.fz (.cid k)), some (.ow (.lst ([0, 1, 2, 17, 18, 19, 20, 30, 60, 100, 180, 254, 255].map D.int))), some (.fz (.int sz)), some (.fz (.int wy)), some (.fz (.int lo)), some (.ow (.lst (R.map D.int))), e6], M'⟩) ⟨[], M3, none, rfl, (fun x hx => by cases hx), hkk, rfl⟩ ?_ ?_
  · rintro i y s hi ⟨R, M', e6, hRl, hRb, hk, rfl⟩
    obtain ⟨hi, rfl⟩ := rng_get hi
    have fin : ∀ (v : Int) (M'' : List Cn), 0 ≤ v → v ≤ 255 → Kpt M M'' k → ∃ (R' : List Int) (M' : List Cn) (e6 : Option Ent), R'.length = i + 1 ∧ (∀ x ∈ R', 0 ≤ x ∧ x ≤ 255) ∧ Kpt M M' k ∧ (⟨[some (.fz (.cid k)), some (.ow (.lst ([0, 1, 2, 17, 18, 19, 20, 30, 60, 100, 180, 254, 255].map D.int))), some (.fz (.int sz)), some (.fz (.int wy)), some (.fz (.int lo)), some (.ow (.lst (R.map D.int ++ [.int v]))), some (.fz (.int (0 + (i : Int))))], M''⟩ : Stt) = ⟨[some (.fz (.cid k)), some (.ow (.lst ([0, 1, 2, 17, 18, 19, 20, 30, 60, 100, 180, 254, 255].map D.int))), some (.fz (.int sz)), some (.fz (.int wy)), some (.fz (.int lo)), some (.ow (.lst (R'.map D.int))), e6], M'⟩ := fun v M'' v0 v1 hk'' => by
      refine ⟨R ++ [v], M'', _, by rw [List.length_append, hRl]; rfl, (fun x hx => ?_), hk'', by rw [List.map_append]; rfl⟩
      rcases List.mem_append.mp hx with hx | hx
      · exact hRb x hx
      · rw [List.mem_singleton.mp hx]; exact ⟨v0, v1⟩
    rcases (show wy = 0 ∨ wy = 1 ∨ wy = 2 ∨ wy = 3 ∨ wy = 4 ∨ wy = 5 by omega) with rfl | rfl | rfl | rfl | rfl | rfl
    · walk_at "w"
      refine fo_use (next_ok hk.dr (z := 256) (by decide) (by decide)) ?_
      rintro _ M2 ⟨y1, rfl, y10, y11, hk2⟩
      walk_at "w"
      refine w_app rfl (by rw [List.length_map]; show _ < 16777216; omega) ?_
      walk_at "ds"
      exact fin _ _ (by omega) (by omega) (hk.trans hk2)
    · walk_at "w"
      refine fo_use (next_ok hk.dr (z := 4) (by decide) (by decide)) ?_
      rintro _ M2 ⟨y1, rfl, y10, y11, hk2⟩
      walk_at "w"
      refine w_app rfl (by rw [List.length_map]; show _ < 16777216; omega) ?_
      walk_at "ds"
      exact fin _ _ (by omega) (by omega) (hk.trans hk2)
    · walk_at "w"
      rw [List.length_map, hRl]
      refine z_if (fun h2 => ?_) (fun h2 => ?_)
      · walk_at "w"
        refine fo_use (next_ok hk.dr (z := 8) (by decide) (by decide)) ?_
        rintro _ M0 ⟨y0, rfl, y00, y01, hk0⟩
        replace hk := hk.trans hk0
        walk_at "w"
        refine z_if (fun h3 => ?_) (fun h3 => ?_)
        · walk_at "w"
          rw [List.length_map, hRl]
          have hmp : 0 < min 7 (i : Int) := by omega
          walk_at "w"
          have hm0 := Int.emod_nonneg lo (show min 7 (i : Int) ≠ 0 by omega)
          have hm1 := Int.emod_lt_of_pos lo hmp
          refine w_ixI (ns := R) rfl rfl rfl (by omega) (by omega) ?_
          have hin : R.getD ((i : Int) - 1 - lo % min 7 (i : Int)).toNat 0 ∈ R := by
            rw [List.getD_eq_getElem?_getD, List.getElem?_eq_getElem (show ((i : Int) - 1 - lo % min 7 (i : Int)).toNat < R.length by omega)]
            exact List.getElem_mem _
          have hv := hRb _ hin
          walk_at "w"
          refine w_app rfl (by rw [List.length_map]; show _ < 16777216; omega) ?_
          walk_at "ds"
          exact fin _ _ hv.1 hv.2 hk
        · walk_at "w"
          refine fo_use (next_ok hk.dr (z := 64) (by decide) (by decide)) ?_
          rintro _ M2 ⟨y1, rfl, y10, y11, hk2⟩
          walk_at "w"
          refine fo_use (next_ok hk2.dr (z := 2) (by decide) (by decide)) ?_
          rintro _ M3 ⟨y2, rfl, y20, y21, hk3⟩
          have hcm : CMul (y1 / 8) y2 := .inr ⟨by omega, by omega⟩
          walk_at "w"
          refine w_app rfl (by rw [List.length_map]; show _ < 16777216; omega) ?_
          walk_at "ds"
          exact fin _ _ (by omega) (by omega) ((hk.trans hk2).trans hk3)
      · walk_at "w"
        refine fo_use (next_ok hk.dr (z := 64) (by decide) (by decide)) ?_
        rintro _ M2 ⟨y1, rfl, y10, y11, hk2⟩
        walk_at "w"
        refine fo_use (next_ok hk2.dr (z := 2) (by decide) (by decide)) ?_
        rintro _ M3 ⟨y2, rfl, y20, y21, hk3⟩
        have hcm : CMul (y1 / 8) y2 := .inr ⟨by omega, by omega⟩
        walk_at "w"
        refine w_app rfl (by rw [List.length_map]; show _ < 16777216; omega) ?_
        walk_at "ds"
        exact fin _ _ (by omega) (by omega) ((hk.trans hk2).trans hk3)
    · walk_at "w"
      refine w_app rfl (by rw [List.length_map]; show _ < 16777216; omega) ?_
      walk_at "ds"
      exact fin _ _ (by omega) (by omega) hk
    · walk_at "w"
      refine fo_use (next_ok hk.dr (z := 7) (by decide) (by decide)) ?_
      rintro _ M2 ⟨y1, rfl, y10, y11, hk2⟩
      walk_at "w"
      refine w_ixI (ns := [32, 97, 98, 99, 165, 90, 91]) rfl rfl rfl y10 (by show y1 < 7; omega) ?_
      have hv : 0 ≤ ([32, 97, 98, 99, 165, 90, 91] : List Int).getD y1.toNat 0 ∧ ([32, 97, 98, 99, 165, 90, 91] : List Int).getD y1.toNat 0 ≤ 255 := by
        have : ∀ n < 7, 0 ≤ ([32, 97, 98, 99, 165, 90, 91] : List Int).getD n 0 ∧ ([32, 97, 98, 99, 165, 90, 91] : List Int).getD n 0 ≤ 255 := by decide +kernel
        exact this y1.toNat (by omega)
      walk_at "w"
      refine w_app rfl (by rw [List.length_map]; show _ < 16777216; omega) ?_
      walk_at "ds"
      exact fin _ _ hv.1 hv.2 (hk.trans hk2)
    · walk_at "w"
      refine fo_use (next_ok hk.dr (z := 64) (by decide) (by decide)) ?_
      rintro _ M2 ⟨y1, rfl, y10, y11, hk2⟩
      walk_at "w"
      refine fo_use (next_ok hk2.dr (z := 2) (by decide) (by decide)) ?_
      rintro _ M3 ⟨y2, rfl, y20, y21, hk3⟩
      have hcm : CMul (y1 / 8) y2 := .inr ⟨by omega, by omega⟩
      walk_at "w"
      refine w_app rfl (by rw [List.length_map]; show _ < 16777216; omega) ?_
      walk_at "ds"
      exact fin _ _ (by omega) (by omega) ((hk.trans hk2).trans hk3)
  · rintro s ⟨R, M', e6, hRl, hRb, hk, rfl⟩
    rw [rng_len] at hRl
    walk_at "w"
    exact ⟨R, rfl, hRb, by omega, hk⟩

theorem fo_ex' {P : AI → List Cn → Prop} {r : Fr} (h : Fo P r) : ∃ a M', r = .ok a M' ∧ P a M' := by
  cases r with
  | ok a M' => exact ⟨a, M', rfl, h⟩
  | er x M' => exact h.elim
  | no => exact h.elim
theorem fd_ex {R : List Int} {w : Nat} (hw : 1 ≤ w ∧ w ≤ 256) (hb : ∀ x ∈ R, 0 ≤ x ∧ x ≤ 255) (hR : R.length ≤ 255) : ∃ ts, Fd R w 0 ts := by
  obtain ⟨_, _, _, ts, h, _⟩ := fo_ex' (found_ok hw hb (by omega) [])
  exact ⟨ts, h⟩
theorem lawT (ns : List Int) (hn : ns.length ≤ 63) : ∃ M', m_law [.clst (ns.map D.int)] [] = .ok (.val (.bl true)) M' := by
  refine (fun (h : Fo (fun a _ => a = .val (.bl true)) (m_law [.clst (ns.map D.int)] [])) => by
    obtain ⟨_, M', e, rfl⟩ := fo_ex' h
    exact ⟨M', e⟩) ?_
  walk_at "f0"; unfold b_law
  walk_at "w"
  rw [List.length_map]
  walk_at "w"
  refine w_forN (fun i s => ∃ (e1 e2 e3 e4 e5 e6 e7 e8 e9 : Option Ent) (M : List Cn), s = ⟨[some (.fz (.clst (ns.map D.int))), e1, e2, e3, e4, e5, e6, e7, e8, e9], M⟩) ⟨_, _, _, _, _, _, _, _, _, _, rfl⟩ ?_ ?_
  · rintro i x s hi ⟨e1, e2, e3, e4, e5, e6, e7, e8, e9, M, rfl⟩
    obtain ⟨hi, rfl⟩ := rng_get hi
    walk_at "w"
    refine w_ixI rfl rfl rfl (by omega) (by omega) ?_
    walk_at "w"
    refine fo_use (draw_ok _ M) ?_
    rintro _ M' ⟨a, b, rfl, rfl⟩
    walk_at "w"
    have hd : Drw (M' ++ [.lst [.int a, .int b]]) M'.length := ⟨a, b, app_at _ _ _⟩
    generalize M' ++ [.lst [.int a, .int b]] = M1 at *
    generalize M'.length = k at *
    refine fo_use (next_ok hd (z := 256) (by decide) (by decide)) ?_
    rintro _ M2 ⟨y1, rfl, y10, y11, hk⟩
    replace hd := hk.dr
    walk_at "w"
    refine fo_use (next_ok hd (z := 6) (by decide) (by decide)) ?_
    rintro _ M3 ⟨y2, rfl, y20, y21, hk⟩
    replace hd := hk.dr
    walk_at "w"
    refine w_ixI (ns := [1, 2, 16, 255, 256, 1 + y1]) rfl rfl rfl y20 (by show y2 < 6; omega) ?_
    obtain ⟨w, hwe, hw⟩ : ∃ w : Nat, ([1, 2, 16, 255, 256, 1 + y1] : List Int).getD y2.toNat 0 = (w : Int) ∧ 1 ≤ w ∧ w ≤ 256 := by
      rcases (show y2 = 0 ∨ y2 = 1 ∨ y2 = 2 ∨ y2 = 3 ∨ y2 = 4 ∨ y2 = 5 by omega) with rfl | rfl | rfl | rfl | rfl | rfl
      · exact ⟨1, rfl, by decide⟩
      · exact ⟨2, rfl, by decide⟩
      · exact ⟨16, rfl, by decide⟩
      · exact ⟨255, rfl, by decide⟩
      · exact ⟨256, rfl, by decide⟩
      · exact ⟨(1 + y1).toNat, by show 1 + y1 = _; omega, by omega⟩
    rw [hwe]
    walk_at "w"
    have num : ∀ (y z : Int), 0 ≤ y → y < 255 → 0 ≤ z → z < 3 → 0 ≤ ([0, 254, y] : List Int).getD z.toNat 0 ∧ ([0, 254, y] : List Int).getD z.toNat 0 ≤ 255 := fun y z h1 h2 h3 h4 => by
      rcases (show z = 0 ∨ z = 1 ∨ z = 2 by omega) with rfl | rfl | rfl
      · show (0 : Int) ≤ 0 ∧ (0 : Int) ≤ 255; decide
      · show (0 : Int) ≤ 254 ∧ (254 : Int) ≤ 255; decide
      · show 0 ≤ y ∧ y ≤ 255; omega
    refine fo_use (next_ok hd (z := 255) (by decide) (by decide)) ?_
    rintro _ M4 ⟨y3, rfl, y30, y31, hk⟩
    replace hd := hk.dr
    walk_at "w"
    refine fo_use (next_ok hd (z := 3) (by decide) (by decide)) ?_
    rintro _ M5 ⟨y4, rfl, y40, y41, hk⟩
    replace hd := hk.dr
    walk_at "w"
    refine w_ixI (ns := [0, 254, y3]) rfl rfl rfl y40 (by show y4 < 3; omega) ?_
    have hx := num y3 y4 y30 y31 y40 y41
    generalize ([0, 254, y3] : List Int).getD y4.toNat 0 = tx at *
    walk_at "w"
    refine fo_use (next_ok hd (z := 255) (by decide) (by decide)) ?_
    rintro _ M6 ⟨y5, rfl, y50, y51, hk⟩
    replace hd := hk.dr
    walk_at "w"
    refine fo_use (next_ok hd (z := 3) (by decide) (by decide)) ?_
    rintro _ M7 ⟨y6, rfl, y60, y61, hk⟩
    replace hd := hk.dr
    walk_at "w"
    refine w_ixI (ns := [0, 254, y5]) rfl rfl rfl y60 (by show y6 < 3; omega) ?_
    have hnu := num y5 y6 y50 y51 y60 y61
    generalize ([0, 254, y5] : List Int).getD y6.toNat 0 = nu at *
    walk_at "w"
    refine fo_use (row_drawn hd) ?_
    rintro _ M8 ⟨R, rfl, hRb, hRl, hk⟩
    walk_at "w1"
    refine w_join (fun s => ∃ w' : Nat, (1 ≤ w' ∧ w' ≤ 256) ∧ s = ⟨[some (.fz (.clst (ns.map D.int))), some (.fz (.int (0 + (i : Int)))), some (.fz (.cid k)), some (.fz (.int (w' : Int))), some (.fz (.int tx)), some (.fz (.int nu)), some (.ow (.lst (R.map D.int))), e7, e8, e9], M8⟩) ?_ ?_
    · walk_at "w"
      refine z_if (fun h1 => ?_) (fun h1 => ?_)
      · walk_at "w"
        rw [List.length_map]
        refine z_if (fun h2 => ?_) (fun h2 => ?_)
        · walk_at "w"
          exact ⟨min w 16, by omega, by rw [show ((min w 16 : Nat) : Int) = min (w : Int) 16 by omega]⟩
        · walk_at "w"
          exact ⟨w, hw, rfl⟩
      · walk_at "w"
        exact ⟨w, hw, rfl⟩
    · rintro s ⟨w', hw', rfl⟩
      obtain ⟨ts, hts⟩ := fd_ex hw' hRb hRl
      have hpl : (pcR tx nu R ts).length ≤ 400 := by
        obtain ⟨_, hbl, _⟩ := bd_byt hRb ts
        unfold pcR pcT
        rw [List.length_append, List.length_append, List.length_append, crcB_len]
        show 2 + (4 + _) + 2 ≤ 400
        omega
      walk_at "w"
      refine fo_use (l_due_ok hx hnu hw' hRb hRl hts M8) ?_
      rintro _ M9 rfl
      walk_at "w"
      refine fo_use (fx_fo (piece_row_ok hx hnu hw' hRb hRl hts M9)) ?_
      rintro _ M10 rfl
      walk_at "w"
      refine w_isi (b := true) (by exact rfl) (by exact rfl) (by decide +kernel) ?_
      walk_at "w"
      refine w_ne (eqPy_self (ns := pcR tx nu R ts) rfl rfl) ?_
      walk_at "w"
      refine w_ne (eqPy_self (ns := R) rfl rfl) ?_
      walk_at "w"
      refine w_app rfl (by rw [List.length_map]; show _ < 16777216; omega) ?_
      walk_at "ds"
      walk_at "w"
      have again : ∀ M : List Cn, Fo (fun a _ => a = .new (.lst ((pcR tx nu R ts).map D.int))) (m_piece_row [.int tx, .int nu, .lst (R.map D.int), .int (w' : Int)] M) := fun M => fx_fo (piece_row_ok hx hnu hw' hRb hRl hts M)
      refine z_if (fun h1 => ?_) (fun h1 => ?_)
      · walk_at "w"
        refine fo_use (again _) ?_
        rintro _ M11 rfl
        walk_at "w"
        refine w_ne (eqPy_self (ns := pcR tx nu R ts) rfl rfl) ?_
        walk_at "w"
        exact ⟨_, _, _, _, _, _, _, _, _, _, rfl⟩
      · walk_at "w"
        rw [List.length_map]
        refine z_if (fun h2 => ?_) (fun h2 => ?_)
        · walk_at "w"
          refine fo_use (again _) ?_
          rintro _ M11 rfl
          walk_at "w"
          refine w_ne (eqPy_self (ns := pcR tx nu R ts) rfl rfl) ?_
          walk_at "w"
          exact ⟨_, _, _, _, _, _, _, _, _, _, rfl⟩
        · walk_at "w"
          exact ⟨_, _, _, _, _, _, _, _, _, _, rfl⟩
  · rintro s ⟨e1, e2, e3, e4, e5, e6, e7, e8, e9, M, rfl⟩
    have hw1 : 1 ≤ 1 ∧ 1 ≤ 256 := by decide
    have hb0 : ∀ x ∈ ([] : List Int), 0 ≤ x ∧ x ≤ 255 := fun x hx => by cases hx
    have hts : Fd [] 1 0 [] := rfl
    have hpc : pcR 0 0 [] [] = [165, 90, 0, 0, 0, 0] ++ crcB [0, 0, 0, 0] := by
      unfold pcR pcT bdK bdB
      have hz : ¬ (byL (padB (pkB (lnT []) []))).length < ([] : List Int).length := Nat.not_lt_zero _
      rw [if_neg hz, if_neg hz]; rfl
    walk_at "w"
    refine fo_use (fx_fo (piece_row_ok (x := 0) (n := 0) (R := []) (w := 1) (by decide) (by decide) hw1 hb0 (by decide) hts M)) ?_
    rintro _ M' rfl
    walk_at "w"
    refine fo_eq (l_sum_ok (ns := [0, 0, 0, 0]) (fun x hx => by simp at hx; omega) M') ?_
    walk_at "w"
    refine w_addL (l := [165, 90, 0, 0, 0, 0].map D.int) (l' := (crcB [0, 0, 0, 0]).map D.int) rfl rfl rfl (by decide) ?_
    rw [← List.map_append, hpc]
    walk_at "w"
    refine w_eq (eqPy_self (ns := [165, 90, 0, 0, 0, 0] ++ crcB [0, 0, 0, 0]) rfl rfl) ?_
    walk_at "w"
    exact rfl

def spLaw (K : PySem.W.Frag) : Sp := fun vs H Q _ => ∃ (a : Addr) (ns : List Int), vs = [.ref a] ∧ SqL K H a (ns.map V.int) ∧ ns.length ≤ 63 ∧ ND H ∧ ∀ H', Q (.bl true) H'
theorem ok_law' {P : Program} {w : World} {K : PySem.W.Frag} {mg : Str → Option Value} {base : Heap} (hl : ∀ ns : List Int, ns.length ≤ 63 → ∃ M', m_law [.clst (ns.map D.int)] [] = .ok (.val (.bl true)) M') (T : Tx K mg) : FnOk P w K mg base CX0 10 T.a_law T.d_law ["_law_script"] (spLaw K) :=
  (ok_law T).imp (fun vs H Q E h => by
    obtain ⟨a, ns, rfl, hS, hn, _, q⟩ := h
    obtain ⟨M', e⟩ := hl ns hn
    refine ⟨⟨H, fun _ => 0, fun _ => none⟩, [], [.clst (ns.map D.int)], ⟨(fun _ _ e => by rw [show (ctT T).lk = none from rfl, U0]; exact e), (fun a l e => nomatch e), fun _ e => e, rfl, (fun i e q => by simp at q), (fun k c q => by simp at q)⟩, .cons (.clst hS (rpl_ints ns)) .nil, ?_⟩
    rw [e]
    intro S' v H' st rel it
    cases rp_bl it
    exact q H')
theorem all_mk {l : PySem.W.OpenLaw} {w : World} {K : PySem.W.Frag} {h : Heap} {mg : Str → Option Value} {fa f0 f1 f2 f3 f4 f5 f6 f7 f8 f9 f10 f11 f12 f13 f14 f15 f16 f17 f18 f19 f20 f21 f22 f23 f24 f25 f26 f27 f28 f29 f30 f31 f32 f33 f34 f35 f36 f37 f38 f39 f40 f41 f42 f43 f44 C_Writer C_ShelfError C_BadBits C_BadTable C_BadPaper : Addr} (X : K.In h) (G : h.Ns mainGlobals mg) (hfa : mg "law" = some (.ref fa))
    {od0 an0 : Option Addr} {sl0 : Array (Option Value)} {oc0 kV0 dc0 pm0 cd0 ct0 : Value}
    {od1 an1 : Option Addr} {sl1 : Array (Option Value)} {oc1 kV1 dc1 pm1 cd1 ct1 : Value}
    {od2 an2 : Option Addr} {sl2 : Array (Option Value)} {oc2 kV2 dc2 pm2 cd2 ct2 : Value}
    {od3 an3 : Option Addr} {sl3 : Array (Option Value)} {oc3 kV3 dc3 pm3 cd3 ct3 : Value}
    {od4 an4 : Option Addr} {sl4 : Array (Option Value)} {oc4 kV4 dc4 pm4 cd4 ct4 : Value}
    {od5 an5 : Option Addr} {sl5 : Array (Option Value)} {oc5 kV5 dc5 pm5 cd5 ct5 : Value}
    {od6 an6 : Option Addr} {sl6 : Array (Option Value)} {oc6 kV6 dc6 pm6 cd6 ct6 : Value}
    {od7 an7 : Option Addr} {sl7 : Array (Option Value)} {oc7 kV7 dc7 pm7 cd7 ct7 : Value}
    {od8 an8 : Option Addr} {sl8 : Array (Option Value)} {oc8 kV8 dc8 pm8 cd8 ct8 : Value}
    {od9 an9 : Option Addr} {sl9 : Array (Option Value)} {oc9 kV9 dc9 pm9 cd9 ct9 : Value}
    {od10 an10 : Option Addr} {sl10 : Array (Option Value)} {oc10 kV10 dc10 pm10 cd10 ct10 : Value}
    {od11 an11 : Option Addr} {sl11 : Array (Option Value)} {oc11 kV11 dc11 pm11 cd11 ct11 : Value}
    {od12 an12 : Option Addr} {sl12 : Array (Option Value)} {oc12 kV12 dc12 pm12 cd12 ct12 : Value}
    {od13 an13 : Option Addr} {sl13 : Array (Option Value)} {oc13 kV13 dc13 pm13 cd13 ct13 : Value}
    {od14 an14 : Option Addr} {sl14 : Array (Option Value)} {oc14 kV14 dc14 pm14 cd14 ct14 : Value}
    {od15 an15 : Option Addr} {sl15 : Array (Option Value)} {oc15 kV15 dc15 pm15 cd15 ct15 : Value}
    {od16 an16 : Option Addr} {sl16 : Array (Option Value)} {oc16 kV16 dc16 pm16 cd16 ct16 : Value}
    {od17 an17 : Option Addr} {sl17 : Array (Option Value)} {oc17 kV17 dc17 pm17 cd17 ct17 : Value}
    {od18 an18 : Option Addr} {sl18 : Array (Option Value)} {oc18 kV18 dc18 pm18 cd18 ct18 : Value}
    {od19 an19 : Option Addr} {sl19 : Array (Option Value)} {oc19 kV19 dc19 pm19 cd19 ct19 : Value}
    {od20 an20 : Option Addr} {sl20 : Array (Option Value)} {oc20 kV20 dc20 pm20 cd20 ct20 : Value}
    {od21 an21 : Option Addr} {sl21 : Array (Option Value)} {oc21 kV21 dc21 pm21 cd21 ct21 : Value}
    {od22 an22 : Option Addr} {sl22 : Array (Option Value)} {oc22 kV22 dc22 pm22 cd22 ct22 : Value}
    {od23 an23 : Option Addr} {sl23 : Array (Option Value)} {oc23 kV23 dc23 pm23 cd23 ct23 : Value}
    {od24 an24 : Option Addr} {sl24 : Array (Option Value)} {oc24 kV24 dc24 pm24 cd24 ct24 : Value}
    {od25 an25 : Option Addr} {sl25 : Array (Option Value)} {oc25 kV25 dc25 pm25 cd25 ct25 : Value}
    {od26 an26 : Option Addr} {sl26 : Array (Option Value)} {oc26 kV26 dc26 pm26 cd26 ct26 : Value}
    {od27 an27 : Option Addr} {sl27 : Array (Option Value)} {oc27 kV27 dc27 pm27 cd27 ct27 : Value}
    {od28 an28 : Option Addr} {sl28 : Array (Option Value)} {oc28 kV28 dc28 pm28 cd28 ct28 : Value}
    {od29 an29 : Option Addr} {sl29 : Array (Option Value)} {oc29 kV29 dc29 pm29 cd29 ct29 : Value}
    {od30 an30 : Option Addr} {sl30 : Array (Option Value)} {oc30 kV30 dc30 pm30 cd30 ct30 : Value}
    {od31 an31 : Option Addr} {sl31 : Array (Option Value)} {oc31 kV31 dc31 pm31 cd31 ct31 : Value}
    {od32 an32 : Option Addr} {sl32 : Array (Option Value)} {oc32 kV32 dc32 pm32 cd32 ct32 : Value}
    {od33 an33 : Option Addr} {sl33 : Array (Option Value)} {oc33 kV33 dc33 pm33 cd33 ct33 : Value}
    {od34 an34 : Option Addr} {sl34 : Array (Option Value)} {oc34 kV34 dc34 pm34 cd34 ct34 : Value}
    {od35 an35 : Option Addr} {sl35 : Array (Option Value)} {oc35 kV35 dc35 pm35 cd35 ct35 : Value}
    {od36 an36 : Option Addr} {sl36 : Array (Option Value)} {oc36 kV36 dc36 pm36 cd36 ct36 : Value}
    {od37 an37 : Option Addr} {sl37 : Array (Option Value)} {oc37 kV37 dc37 pm37 cd37 ct37 : Value}
    {od38 an38 : Option Addr} {sl38 : Array (Option Value)} {oc38 kV38 dc38 pm38 cd38 ct38 : Value}
    {od39 an39 : Option Addr} {sl39 : Array (Option Value)} {oc39 kV39 dc39 pm39 cd39 ct39 : Value}
    {od40 an40 : Option Addr} {sl40 : Array (Option Value)} {oc40 kV40 dc40 pm40 cd40 ct40 : Value}
    {od41 an41 : Option Addr} {sl41 : Array (Option Value)} {oc41 kV41 dc41 pm41 cd41 ct41 : Value}
    {od42 an42 : Option Addr} {sl42 : Array (Option Value)} {oc42 kV42 dc42 pm42 cd42 ct42 : Value}
    {od43 an43 : Option Addr} {sl43 : Array (Option Value)} {oc43 kV43 dc43 pm43 cd43 ct43 : Value}
    {od44 an44 : Option Addr} {sl44 : Array (Option Value)} {oc44 kV44 dc44 pm44 cd44 ct44 : Value}
    {nm_BadPaper q_BadPaper : Str} {N_BadPaper : Addr} {bs_BadPaper : List Value} {sn_BadPaper : List Str} {sub_BadPaper : List Value} {ab_BadPaper : Bool} {col_BadPaper : Option Bool} {dd_BadPaper : Option Addr} {m0_BadPaper m1_BadPaper m2_BadPaper m3_BadPaper m5_BadPaper : Option Value}
    {u_MOST_BITS : Value}
    {u_LEAST : Value}
    {u_MOST : Value}
    {u_BEGIN : Value}
    {u_FEED : Value}
    {u_TOP : Value}
    {u_MOST_SYMBOLS : Value}
    {u_MOST_COUNT : Value}
    {u_LONGEST : Value}
    {u_MARK : Addr} {kob_MARK : Obj} {kits_MARK : Array Value} {kn_MARK : Nat}
    {u_SYMBOLS : Value}
    {u_BACK : Value}
    {u_TABLE_BYTES : Value}
    {u_PLAIN : Value}
    {u_PACKED : Value}
    (a0 : PySem.W.findIn K (.ref C_BadPaper) "__init__" = some (some (.ref f0)))
    (i0 : PySem.W.isFn K (.ref f0) = true)
    (l0 : K.lookup f0 = some ⟨oc0, od0, .func (PySem.W.fnOf "__init__" "BadPaper.__init__" (defArgs s_BadPaper_init) (defBody s_BadPaper_init) (defScope s_BadPaper_init) .none kV0 dc0 pm0 an0 cd0 ct0), sl0⟩)
    (c0 : PySem.W.codeIn K cd0 "BadPaper.__init__" = true) (k0 : PySem.W.keepIn K (.ref f0) = true)
    (a1 : PySem.W.nsIn K mainGlobals "is_whole_bits" = some (some (.ref f1)))
    (l1 : K.lookup f1 = some ⟨oc1, od1, .func (PySem.W.fnOf "is_whole" "is_whole" (defArgs s_is_whole_bits) (defBody s_is_whole_bits) (defScope s_is_whole_bits) .none kV1 dc1 pm1 an1 cd1 ct1), sl1⟩)
    (c1 : PySem.W.codeIn K cd1 "is_whole" = true) (k1 : PySem.W.keepIn K (.ref f1) = true)
    (a2 : PySem.W.nsIn K mainGlobals "refuse_unless" = some (some (.ref f2)))
    (l2 : K.lookup f2 = some ⟨oc2, od2, .func (PySem.W.fnOf "refuse_unless" "refuse_unless" (defArgs s_refuse_unless) (defBody s_refuse_unless) (defScope s_refuse_unless) .none kV2 dc2 pm2 an2 cd2 ct2), sl2⟩)
    (c2 : PySem.W.codeIn K cd2 "refuse_unless" = true) (k2 : PySem.W.keepIn K (.ref f2) = true)
    (a3 : PySem.W.findIn K (.ref C_Writer) "__init__" = some (some (.ref f3)))
    (i3 : PySem.W.isFn K (.ref f3) = true)
    (l3 : K.lookup f3 = some ⟨oc3, od3, .func (PySem.W.fnOf "__init__" "Writer.__init__" (defArgs s_Writer_init) (defBody s_Writer_init) (defScope s_Writer_init) .none kV3 dc3 pm3 an3 cd3 ct3), sl3⟩)
    (c3 : PySem.W.codeIn K cd3 "Writer.__init__" = true) (k3 : PySem.W.keepIn K (.ref f3) = true)
    (a4 : PySem.W.findIn K (.ref C_Writer) "put" = some (some (.ref f4)))
    (i4 : PySem.W.isFn K (.ref f4) = true)
    (l4 : K.lookup f4 = some ⟨oc4, od4, .func (PySem.W.fnOf "put" "Writer.put" (defArgs s_Writer_put) (defBody s_Writer_put) (defScope s_Writer_put) .none kV4 dc4 pm4 an4 cd4 ct4), sl4⟩)
    (c4 : PySem.W.codeIn K cd4 "Writer.put" = true) (k4 : PySem.W.keepIn K (.ref f4) = true)
    (a5 : PySem.W.findIn K (.ref C_Writer) "bits" = some (some (.ref f5)))
    (i5 : PySem.W.isFn K (.ref f5) = true)
    (l5 : K.lookup f5 = some ⟨oc5, od5, .func (PySem.W.fnOf "bits" "Writer.bits" (defArgs s_Writer_bits) (defBody s_Writer_bits) (defScope s_Writer_bits) .none kV5 dc5 pm5 an5 cd5 ct5), sl5⟩)
    (c5 : PySem.W.codeIn K cd5 "Writer.bits" = true) (k5 : PySem.W.keepIn K (.ref f5) = true)
    (a6 : PySem.W.findIn K (.ref C_Writer) "fill" = some (some (.ref f6)))
    (i6 : PySem.W.isFn K (.ref f6) = true)
    (l6 : K.lookup f6 = some ⟨oc6, od6, .func (PySem.W.fnOf "fill" "Writer.fill" (defArgs s_Writer_fill) (defBody s_Writer_fill) (defScope s_Writer_fill) .none kV6 dc6 pm6 an6 cd6 ct6), sl6⟩)
    (c6 : PySem.W.codeIn K cd6 "Writer.fill" = true) (k6 : PySem.W.keepIn K (.ref f6) = true)
    (a7 : PySem.W.findIn K (.ref C_Writer) "row" = some (some (.ref f7)))
    (i7 : PySem.W.isFn K (.ref f7) = true)
    (l7 : K.lookup f7 = some ⟨oc7, od7, .func (PySem.W.fnOf "row" "Writer.row" (defArgs s_Writer_row) (defBody s_Writer_row) (defScope s_Writer_row) .none kV7 dc7 pm7 an7 cd7 ct7), sl7⟩)
    (c7 : PySem.W.codeIn K cd7 "Writer.row" = true) (k7 : PySem.W.keepIn K (.ref f7) = true)
    (a8 : PySem.W.nsIn K mainGlobals "run_at" = some (some (.ref f8)))
    (l8 : K.lookup f8 = some ⟨oc8, od8, .func (PySem.W.fnOf "run_at" "run_at" (defArgs s_run_at) (defBody s_run_at) (defScope s_run_at) .none kV8 dc8 pm8 an8 cd8 ct8), sl8⟩)
    (c8 : PySem.W.codeIn K cd8 "run_at" = true) (k8 : PySem.W.keepIn K (.ref f8) = true)
    (a9 : PySem.W.nsIn K mainGlobals "best_back" = some (some (.ref f9)))
    (l9 : K.lookup f9 = some ⟨oc9, od9, .func (PySem.W.fnOf "best_back" "best_back" (defArgs s_best_back) (defBody s_best_back) (defScope s_best_back) .none kV9 dc9 pm9 an9 cd9 ct9), sl9⟩)
    (c9 : PySem.W.codeIn K cd9 "best_back" = true) (k9 : PySem.W.keepIn K (.ref f9) = true)
    (a10 : PySem.W.nsIn K mainGlobals "found_in" = some (some (.ref f10)))
    (l10 : K.lookup f10 = some ⟨oc10, od10, .func (PySem.W.fnOf "found_in" "found_in" (defArgs s_found_in) (defBody s_found_in) (defScope s_found_in) .none kV10 dc10 pm10 an10 cd10 ct10), sl10⟩)
    (c10 : PySem.W.codeIn K cd10 "found_in" = true) (k10 : PySem.W.keepIn K (.ref f10) = true)
    (a11 : PySem.W.nsIn K mainGlobals "crc_on" = some (some (.ref f11)))
    (l11 : K.lookup f11 = some ⟨oc11, od11, .func (PySem.W.fnOf "crc_on" "crc_on" (defArgs s_crc_on) (defBody s_crc_on) (defScope s_crc_on) .none kV11 dc11 pm11 an11 cd11 ct11), sl11⟩)
    (c11 : PySem.W.codeIn K cd11 "crc_on" = true) (k11 : PySem.W.keepIn K (.ref f11) = true)
    (a12 : PySem.W.nsIn K mainGlobals "crc" = some (some (.ref f12)))
    (l12 : K.lookup f12 = some ⟨oc12, od12, .func (PySem.W.fnOf "crc" "crc" (defArgs s_crc) (defBody s_crc) (defScope s_crc) .none kV12 dc12 pm12 an12 cd12 ct12), sl12⟩)
    (c12 : PySem.W.codeIn K cd12 "crc" = true) (k12 : PySem.W.keepIn K (.ref f12) = true)
    (a13 : PySem.W.nsIn K mainGlobals "crc_row" = some (some (.ref f13)))
    (l13 : K.lookup f13 = some ⟨oc13, od13, .func (PySem.W.fnOf "crc_row" "crc_row" (defArgs s_crc_row) (defBody s_crc_row) (defScope s_crc_row) .none kV13 dc13 pm13 an13 cd13 ct13), sl13⟩)
    (c13 : PySem.W.codeIn K cd13 "crc_row" = true) (k13 : PySem.W.keepIn K (.ref f13) = true)
    (a14 : PySem.W.nsIn K mainGlobals "is_whole_tables" = some (some (.ref f14)))
    (l14 : K.lookup f14 = some ⟨oc14, od14, .func (PySem.W.fnOf "is_whole" "is_whole" (defArgs s_is_whole_tables) (defBody s_is_whole_tables) (defScope s_is_whole_tables) .none kV14 dc14 pm14 an14 cd14 ct14), sl14⟩)
    (c14 : PySem.W.codeIn K cd14 "is_whole" = true) (k14 : PySem.W.keepIn K (.ref f14) = true)
    (a15 : PySem.W.nsIn K mainGlobals "is_list_of" = some (some (.ref f15)))
    (l15 : K.lookup f15 = some ⟨oc15, od15, .func (PySem.W.fnOf "is_list_of" "is_list_of" (defArgs s_is_list_of) (defBody s_is_list_of) (defScope s_is_list_of) .none kV15 dc15 pm15 an15 cd15 ct15), sl15⟩)
    (c15 : PySem.W.codeIn K cd15 "is_list_of" = true) (k15 : PySem.W.keepIn K (.ref f15) = true)
    (a16 : PySem.W.nsIn K mainGlobals "check_counts" = some (some (.ref f16)))
    (l16 : K.lookup f16 = some ⟨oc16, od16, .func (PySem.W.fnOf "check_counts" "check_counts" (defArgs s_check_counts) (defBody s_check_counts) (defScope s_check_counts) .none kV16 dc16 pm16 an16 cd16 ct16), sl16⟩)
    (c16 : PySem.W.codeIn K cd16 "check_counts" = true) (k16 : PySem.W.keepIn K (.ref f16) = true)
    (a17 : PySem.W.nsIn K mainGlobals "room_of" = some (some (.ref f17)))
    (l17 : K.lookup f17 = some ⟨oc17, od17, .func (PySem.W.fnOf "room_of" "room_of" (defArgs s_room_of) (defBody s_room_of) (defScope s_room_of) .none kV17 dc17 pm17 an17 cd17 ct17), sl17⟩)
    (c17 : PySem.W.codeIn K cd17 "room_of" = true) (k17 : PySem.W.keepIn K (.ref f17) = true)
    (a18 : PySem.W.nsIn K mainGlobals "fits" = some (some (.ref f18)))
    (l18 : K.lookup f18 = some ⟨oc18, od18, .func (PySem.W.fnOf "fits" "fits" (defArgs s_fits) (defBody s_fits) (defScope s_fits) .none kV18 dc18 pm18 an18 cd18 ct18), sl18⟩)
    (c18 : PySem.W.codeIn K cd18 "fits" = true) (k18 : PySem.W.keepIn K (.ref f18) = true)
    (a19 : PySem.W.nsIn K mainGlobals "check_lengths" = some (some (.ref f19)))
    (l19 : K.lookup f19 = some ⟨oc19, od19, .func (PySem.W.fnOf "check_lengths" "check_lengths" (defArgs s_check_lengths) (defBody s_check_lengths) (defScope s_check_lengths) .none kV19 dc19 pm19 an19 cd19 ct19), sl19⟩)
    (c19 : PySem.W.codeIn K cd19 "check_lengths" = true) (k19 : PySem.W.keepIn K (.ref f19) = true)
    (a20 : PySem.W.nsIn K mainGlobals "first_parts" = some (some (.ref f20)))
    (l20 : K.lookup f20 = some ⟨oc20, od20, .func (PySem.W.fnOf "first_parts" "first_parts" (defArgs s_first_parts) (defBody s_first_parts) (defScope s_first_parts) .none kV20 dc20 pm20 an20 cd20 ct20), sl20⟩)
    (c20 : PySem.W.codeIn K cd20 "first_parts" = true) (k20 : PySem.W.keepIn K (.ref f20) = true)
    (a21 : PySem.W.nsIn K mainGlobals "least_part" = some (some (.ref f21)))
    (l21 : K.lookup f21 = some ⟨oc21, od21, .func (PySem.W.fnOf "least_part" "least_part" (defArgs s_least_part) (defBody s_least_part) (defScope s_least_part) .none kV21 dc21 pm21 an21 cd21 ct21), sl21⟩)
    (c21 : PySem.W.codeIn K cd21 "least_part" = true) (k21 : PySem.W.keepIn K (.ref f21) = true)
    (a22 : PySem.W.nsIn K mainGlobals "pairs_of" = some (some (.ref f22)))
    (l22 : K.lookup f22 = some ⟨oc22, od22, .func (PySem.W.fnOf "pairs_of" "pairs_of" (defArgs s_pairs_of) (defBody s_pairs_of) (defScope s_pairs_of) .none kV22 dc22 pm22 an22 cd22 ct22), sl22⟩)
    (c22 : PySem.W.codeIn K cd22 "pairs_of" = true) (k22 : PySem.W.keepIn K (.ref f22) = true)
    (a23 : PySem.W.nsIn K mainGlobals "is_pair" = some (some (.ref f23)))
    (l23 : K.lookup f23 = some ⟨oc23, od23, .func (PySem.W.fnOf "is_pair" "is_pair" (defArgs s_is_pair) (defBody s_is_pair) (defScope s_is_pair) .none kV23 dc23 pm23 an23 cd23 ct23), sl23⟩)
    (c23 : PySem.W.codeIn K cd23 "is_pair" = true) (k23 : PySem.W.keepIn K (.ref f23) = true)
    (a24 : PySem.W.nsIn K mainGlobals "put_together" = some (some (.ref f24)))
    (l24 : K.lookup f24 = some ⟨oc24, od24, .func (PySem.W.fnOf "put_together" "put_together" (defArgs s_put_together) (defBody s_put_together) (defScope s_put_together) .none kV24 dc24 pm24 an24 cd24 ct24), sl24⟩)
    (c24 : PySem.W.codeIn K cd24 "put_together" = true) (k24 : PySem.W.keepIn K (.ref f24) = true)
    (a25 : PySem.W.nsIn K mainGlobals "check_paper" = some (some (.ref f25)))
    (l25 : K.lookup f25 = some ⟨oc25, od25, .func (PySem.W.fnOf "check_paper" "check_paper" (defArgs s_check_paper) (defBody s_check_paper) (defScope s_check_paper) .none kV25 dc25 pm25 an25 cd25 ct25), sl25⟩)
    (c25 : PySem.W.codeIn K cd25 "check_paper" = true) (k25 : PySem.W.keepIn K (.ref f25) = true)
    (a26 : PySem.W.nsIn K mainGlobals "lengths_by" = some (some (.ref f26)))
    (l26 : K.lookup f26 = some ⟨oc26, od26, .func (PySem.W.fnOf "lengths_by" "lengths_by" (defArgs s_lengths_by) (defBody s_lengths_by) (defScope s_lengths_by) .none kV26 dc26 pm26 an26 cd26 ct26), sl26⟩)
    (c26 : PySem.W.codeIn K cd26 "lengths_by" = true) (k26 : PySem.W.keepIn K (.ref f26) = true)
    (a27 : PySem.W.nsIn K mainGlobals "least_lengths" = some (some (.ref f27)))
    (l27 : K.lookup f27 = some ⟨oc27, od27, .func (PySem.W.fnOf "least_lengths" "least_lengths" (defArgs s_least_lengths) (defBody s_least_lengths) (defScope s_least_lengths) .none kV27 dc27 pm27 an27 cd27 ct27), sl27⟩)
    (c27 : PySem.W.codeIn K cd27 "least_lengths" = true) (k27 : PySem.W.keepIn K (.ref f27) = true)
    (a28 : PySem.W.nsIn K mainGlobals "words_of" = some (some (.ref f28)))
    (l28 : K.lookup f28 = some ⟨oc28, od28, .func (PySem.W.fnOf "words_of" "words_of" (defArgs s_words_of) (defBody s_words_of) (defScope s_words_of) .none kV28 dc28 pm28 an28 cd28 ct28), sl28⟩)
    (c28 : PySem.W.codeIn K cd28 "words_of" = true) (k28 : PySem.W.keepIn K (.ref f28) = true)
    (a29 : PySem.W.nsIn K mainGlobals "symbol_of" = some (some (.ref f29)))
    (l29 : K.lookup f29 = some ⟨oc29, od29, .func (PySem.W.fnOf "symbol_of" "symbol_of" (defArgs s_symbol_of) (defBody s_symbol_of) (defScope s_symbol_of) .none kV29 dc29 pm29 an29 cd29 ct29), sl29⟩)
    (c29 : PySem.W.codeIn K cd29 "symbol_of" = true) (k29 : PySem.W.keepIn K (.ref f29) = true)
    (a30 : PySem.W.nsIn K mainGlobals "counts_of" = some (some (.ref f30)))
    (l30 : K.lookup f30 = some ⟨oc30, od30, .func (PySem.W.fnOf "counts_of" "counts_of" (defArgs s_counts_of) (defBody s_counts_of) (defScope s_counts_of) .none kV30 dc30 pm30 an30 cd30 ct30), sl30⟩)
    (c30 : PySem.W.codeIn K cd30 "counts_of" = true) (k30 : PySem.W.keepIn K (.ref f30) = true)
    (a31 : PySem.W.nsIn K mainGlobals "put_token" = some (some (.ref f31)))
    (l31 : K.lookup f31 = some ⟨oc31, od31, .func (PySem.W.fnOf "put_token" "put_token" (defArgs s_put_token) (defBody s_put_token) (defScope s_put_token) .none kV31 dc31 pm31 an31 cd31 ct31), sl31⟩)
    (c31 : PySem.W.codeIn K cd31 "put_token" = true) (k31 : PySem.W.keepIn K (.ref f31) = true)
    (a32 : PySem.W.nsIn K mainGlobals "packed_body" = some (some (.ref f32)))
    (l32 : K.lookup f32 = some ⟨oc32, od32, .func (PySem.W.fnOf "packed_body" "packed_body" (defArgs s_packed_body) (defBody s_packed_body) (defScope s_packed_body) .none kV32 dc32 pm32 an32 cd32 ct32), sl32⟩)
    (c32 : PySem.W.codeIn K cd32 "packed_body" = true) (k32 : PySem.W.keepIn K (.ref f32) = true)
    (a33 : PySem.W.nsIn K mainGlobals "body_of" = some (some (.ref f33)))
    (l33 : K.lookup f33 = some ⟨oc33, od33, .func (PySem.W.fnOf "body_of" "body_of" (defArgs s_body_of) (defBody s_body_of) (defScope s_body_of) .none kV33 dc33 pm33 an33 cd33 ct33), sl33⟩)
    (c33 : PySem.W.codeIn K cd33 "body_of" = true) (k33 : PySem.W.keepIn K (.ref f33) = true)
    (a34 : PySem.W.nsIn K mainGlobals "piece_row" = some (some (.ref f34)))
    (l34 : K.lookup f34 = some ⟨oc34, od34, .func (PySem.W.fnOf "piece_row" "piece_row" (defArgs s_piece_row) (defBody s_piece_row) (defScope s_piece_row) .none kV34 dc34 pm34 an34 cd34 ct34), sl34⟩)
    (c34 : PySem.W.codeIn K cd34 "piece_row" = true) (k34 : PySem.W.keepIn K (.ref f34) = true)
    (a35 : PySem.W.nsIn K mainGlobals "_law_draw" = some (some (.ref f35)))
    (l35 : K.lookup f35 = some ⟨oc35, od35, .func (PySem.W.fnOf "_law_draw" "_law_draw" (defArgs s_l_draw) (defBody s_l_draw) (defScope s_l_draw) .none kV35 dc35 pm35 an35 cd35 ct35), sl35⟩)
    (c35 : PySem.W.codeIn K cd35 "_law_draw" = true) (k35 : PySem.W.keepIn K (.ref f35) = true)
    (a36 : PySem.W.nsIn K mainGlobals "_law_next" = some (some (.ref f36)))
    (l36 : K.lookup f36 = some ⟨oc36, od36, .func (PySem.W.fnOf "_law_next" "_law_next" (defArgs s_l_next) (defBody s_l_next) (defScope s_l_next) .none kV36 dc36 pm36 an36 cd36 ct36), sl36⟩)
    (c36 : PySem.W.codeIn K cd36 "_law_next" = true) (k36 : PySem.W.keepIn K (.ref f36) = true)
    (a37 : PySem.W.nsIn K mainGlobals "_law_sum" = some (some (.ref f37)))
    (l37 : K.lookup f37 = some ⟨oc37, od37, .func (PySem.W.fnOf "_law_sum" "_law_sum" (defArgs s_l_sum) (defBody s_l_sum) (defScope s_l_sum) .none kV37 dc37 pm37 an37 cd37 ct37), sl37⟩)
    (c37 : PySem.W.codeIn K cd37 "_law_sum" = true) (k37 : PySem.W.keepIn K (.ref f37) = true)
    (a38 : PySem.W.nsIn K mainGlobals "_law_row" = some (some (.ref f38)))
    (l38 : K.lookup f38 = some ⟨oc38, od38, .func (PySem.W.fnOf "_law_row" "_law_row" (defArgs s_l_row) (defBody s_l_row) (defScope s_l_row) .none kV38 dc38 pm38 an38 cd38 ct38), sl38⟩)
    (c38 : PySem.W.codeIn K cd38 "_law_row" = true) (k38 : PySem.W.keepIn K (.ref f38) = true)
    (a39 : PySem.W.nsIn K mainGlobals "_law_bits" = some (some (.ref f39)))
    (l39 : K.lookup f39 = some ⟨oc39, od39, .func (PySem.W.fnOf "_law_bits" "_law_bits" (defArgs s_l_bits) (defBody s_l_bits) (defScope s_l_bits) .none kV39 dc39 pm39 an39 cd39 ct39), sl39⟩)
    (c39 : PySem.W.codeIn K cd39 "_law_bits" = true) (k39 : PySem.W.keepIn K (.ref f39) = true)
    (a40 : PySem.W.nsIn K mainGlobals "_law_bytes" = some (some (.ref f40)))
    (l40 : K.lookup f40 = some ⟨oc40, od40, .func (PySem.W.fnOf "_law_bytes" "_law_bytes" (defArgs s_l_bytes) (defBody s_l_bytes) (defScope s_l_bytes) .none kV40 dc40 pm40 an40 cd40 ct40), sl40⟩)
    (c40 : PySem.W.codeIn K cd40 "_law_bytes" = true) (k40 : PySem.W.keepIn K (.ref f40) = true)
    (a41 : PySem.W.nsIn K mainGlobals "_law_symbols" = some (some (.ref f41)))
    (l41 : K.lookup f41 = some ⟨oc41, od41, .func (PySem.W.fnOf "_law_symbols" "_law_symbols" (defArgs s_l_symbols) (defBody s_l_symbols) (defScope s_l_symbols) .none kV41 dc41 pm41 an41 cd41 ct41), sl41⟩)
    (c41 : PySem.W.codeIn K cd41 "_law_symbols" = true) (k41 : PySem.W.keepIn K (.ref f41) = true)
    (a42 : PySem.W.nsIn K mainGlobals "_law_packed" = some (some (.ref f42)))
    (l42 : K.lookup f42 = some ⟨oc42, od42, .func (PySem.W.fnOf "_law_packed" "_law_packed" (defArgs s_l_packed) (defBody s_l_packed) (defScope s_l_packed) .none kV42 dc42 pm42 an42 cd42 ct42), sl42⟩)
    (c42 : PySem.W.codeIn K cd42 "_law_packed" = true) (k42 : PySem.W.keepIn K (.ref f42) = true)
    (a43 : PySem.W.nsIn K mainGlobals "_law_due" = some (some (.ref f43)))
    (l43 : K.lookup f43 = some ⟨oc43, od43, .func (PySem.W.fnOf "_law_due" "_law_due" (defArgs s_l_due) (defBody s_l_due) (defScope s_l_due) .none kV43 dc43 pm43 an43 cd43 ct43), sl43⟩)
    (c43 : PySem.W.codeIn K cd43 "_law_due" = true) (k43 : PySem.W.keepIn K (.ref f43) = true)
    (a44 : PySem.W.nsIn K mainGlobals "law" = some (some (.ref f44)))
    (l44 : K.lookup f44 = some ⟨oc44, od44, .func (PySem.W.fnOf "law" "law" (defArgs s_law) (defBody s_law) (defScope s_law) .none kV44 dc44 pm44 an44 cd44 ct44), sl44⟩)
    (c44 : PySem.W.codeIn K cd44 "law" = true) (k44 : PySem.W.keepIn K (.ref f44) = true)
    (qC_Writer : PySem.W.nsIn K mainGlobals "Writer" = some (some (.ref C_Writer)))
    (pgC_Writer : PySem.W.plainGet K C_Writer Str.empty = true) (hdC_Writer : PySem.W.hasDictIn K C_Writer = true) (poC_Writer : PySem.W.plainOver K C_Writer = true) (saC_Writer : PySem.W.findIn K (.ref C_Writer) "__setattr__" = some (some (.builtin "object.__setattr__"))) (mkC_Writer : PySem.W.makesIn K C_Writer = true) (kcC_Writer : PySem.W.keepIn K (.ref C_Writer) = true)
    (nC_Writer_full : PySem.W.findIn K (.ref C_Writer) "full" = some none)
    (nC_Writer_begun : PySem.W.findIn K (.ref C_Writer) "begun" = some none)
    (nC_Writer_many : PySem.W.findIn K (.ref C_Writer) "many" = some none)
    (qC_ShelfError : PySem.W.nsIn K mainGlobals "ShelfError" = some (some (.ref C_ShelfError)))
    (k_ShelfError : PySem.W.keepIn K (.ref C_ShelfError) = true)
    (b_ShelfError : PySem.W.subIn K (.ref C_ShelfError) (.type "BaseException") = some true)
    (t_ShelfError : PySem.W.typeIn K (.ref C_ShelfError) = some (.type "type"))
    (i_ShelfError : PySem.W.isClsIn K C_ShelfError = true)
    (rd_ShelfError : PySem.W.readsIn K C_ShelfError (.type "type") = true)
    (ra_ShelfError : PySem.W.specialIn K (.ref C_ShelfError) "__getattribute__" = some (some (.builtin "type.__getattribute__")))
    (ri_ShelfError : PySem.W.findCls K (.ref C_ShelfError) (.type "type") "__init__" = some (.val (.builtin "ValueError.__init__")))
    (qC_BadBits : PySem.W.nsIn K mainGlobals "BadBits" = some (some (.ref C_BadBits)))
    (k_BadBits : PySem.W.keepIn K (.ref C_BadBits) = true)
    (b_BadBits : PySem.W.subIn K (.ref C_BadBits) (.type "BaseException") = some true)
    (t_BadBits : PySem.W.typeIn K (.ref C_BadBits) = some (.type "type"))
    (i_BadBits : PySem.W.isClsIn K C_BadBits = true)
    (x_BadBits : PySem.W.excIn K C_BadBits [.type "ValueError", .type "Exception", .type "BaseException", .type "object"] "ValueError.__new__" = true)
    (gb_BadBits : PySem.W.findIn K (.ref C_BadBits) "__getattribute__" = some (some (.builtin "BaseException.__getattribute__")))
    (gg_BadBits : PySem.W.findIn K (.ref C_BadBits) "__getattr__" = some none)
    (hd_BadBits : PySem.W.hasDictIn K C_BadBits = true)
    (ca_BadBits : PySem.W.findIn K (.ref C_BadBits) "__class__" = some (some (.builtin "object.__class__")))
    (cn_BadBits : PySem.W.specialIn K (.builtin "object.__class__") "__get__" = some (some (.builtin "getset_descriptor.__get__")))
    (ct_BadBits : PySem.W.takesIn K (.builtin "object.__class__") = some true)
    (cm_BadBits : PySem.W.mroIn K C_BadBits (.type "object") = some true)
    (qC_BadTable : PySem.W.nsIn K mainGlobals "BadTable" = some (some (.ref C_BadTable)))
    (k_BadTable : PySem.W.keepIn K (.ref C_BadTable) = true)
    (b_BadTable : PySem.W.subIn K (.ref C_BadTable) (.type "BaseException") = some true)
    (t_BadTable : PySem.W.typeIn K (.ref C_BadTable) = some (.type "type"))
    (i_BadTable : PySem.W.isClsIn K C_BadTable = true)
    (x_BadTable : PySem.W.excIn K C_BadTable [.type "ValueError", .type "Exception", .type "BaseException", .type "object"] "ValueError.__new__" = true)
    (gb_BadTable : PySem.W.findIn K (.ref C_BadTable) "__getattribute__" = some (some (.builtin "BaseException.__getattribute__")))
    (gg_BadTable : PySem.W.findIn K (.ref C_BadTable) "__getattr__" = some none)
    (hd_BadTable : PySem.W.hasDictIn K C_BadTable = true)
    (ca_BadTable : PySem.W.findIn K (.ref C_BadTable) "__class__" = some (some (.builtin "object.__class__")))
    (cn_BadTable : PySem.W.specialIn K (.builtin "object.__class__") "__get__" = some (some (.builtin "getset_descriptor.__get__")))
    (ct_BadTable : PySem.W.takesIn K (.builtin "object.__class__") = some true)
    (cm_BadTable : PySem.W.mroIn K C_BadTable (.type "object") = some true)
    (qC_BadPaper : PySem.W.nsIn K mainGlobals "BadPaper" = some (some (.ref C_BadPaper)))
    (k_BadPaper : PySem.W.keepIn K (.ref C_BadPaper) = true)
    (b_BadPaper : PySem.W.subIn K (.ref C_BadPaper) (.type "BaseException") = some true)
    (t_BadPaper : PySem.W.typeIn K (.ref C_BadPaper) = some (.type "type"))
    (i_BadPaper : PySem.W.isClsIn K C_BadPaper = true)
    (sa_BadPaper : PySem.W.findIn K (.ref C_BadPaper) "__setattr__" = some (some (.builtin "object.__setattr__")))
    (n_at_BadPaper : PySem.W.findIn K (.ref C_BadPaper) "at" = some none)
    (gb_BadPaper : PySem.W.findIn K (.ref C_BadPaper) "__getattribute__" = some (some (.builtin "BaseException.__getattribute__")))
    (gg_BadPaper : PySem.W.findIn K (.ref C_BadPaper) "__getattr__" = some none)
    (hd_BadPaper : PySem.W.hasDictIn K C_BadPaper = true)
    (ca_BadPaper : PySem.W.findIn K (.ref C_BadPaper) "__class__" = some (some (.builtin "object.__class__")))
    (cn_BadPaper : PySem.W.specialIn K (.builtin "object.__class__") "__get__" = some (some (.builtin "getset_descriptor.__get__")))
    (ct_BadPaper : PySem.W.takesIn K (.builtin "object.__class__") = some true)
    (cm_BadPaper : PySem.W.mroIn K C_BadPaper (.type "object") = some true)
    (xL_BadPaper : K.lookup C_BadPaper = some (PySem.excClassObj nm_BadPaper q_BadPaper C_BadPaper N_BadPaper bs_BadPaper [.ref C_ShelfError, .type "ValueError", .type "Exception", .type "BaseException", .type "object"] true sn_BadPaper sub_BadPaper ab_BadPaper col_BadPaper dd_BadPaper m0_BadPaper m1_BadPaper m2_BadPaper m3_BadPaper m5_BadPaper "ValueError.__new__"))
    (z_all : PySem.W.nsIn K mainGlobals "all" = some none)
    (z_bool : PySem.W.nsIn K mainGlobals "bool" = some none)
    (z_enumerate : PySem.W.nsIn K mainGlobals "enumerate" = some none)
    (z_int : PySem.W.nsIn K mainGlobals "int" = some none)
    (z_isinstance : PySem.W.nsIn K mainGlobals "isinstance" = some none)
    (z_len : PySem.W.nsIn K mainGlobals "len" = some none)
    (z_list : PySem.W.nsIn K mainGlobals "list" = some none)
    (z_max : PySem.W.nsIn K mainGlobals "max" = some none)
    (z_min : PySem.W.nsIn K mainGlobals "min" = some none)
    (z_range : PySem.W.nsIn K mainGlobals "range" = some none)
    (z_sorted : PySem.W.nsIn K mainGlobals "sorted" = some none)
    (z_str : PySem.W.nsIn K mainGlobals "str" = some none)
    (z_sum : PySem.W.nsIn K mainGlobals "sum" = some none)
    (z_tuple : PySem.W.nsIn K mainGlobals "tuple" = some none)
    (z_zip : PySem.W.nsIn K mainGlobals "zip" = some none)
    (m_MOST_BITS : PySem.W.nsIn K mainGlobals "MOST_BITS" = some (some u_MOST_BITS)) (r_MOST_BITS : RelV (.int 64) u_MOST_BITS)
    (m_LEAST : PySem.W.nsIn K mainGlobals "LEAST" = some (some u_LEAST)) (r_LEAST : RelV (.int 3) u_LEAST)
    (m_MOST : PySem.W.nsIn K mainGlobals "MOST" = some (some u_MOST)) (r_MOST : RelV (.int 16) u_MOST)
    (m_BEGIN : PySem.W.nsIn K mainGlobals "BEGIN" = some (some u_BEGIN)) (r_BEGIN : RelV (.int 65535) u_BEGIN)
    (m_FEED : PySem.W.nsIn K mainGlobals "FEED" = some (some u_FEED)) (r_FEED : RelV (.int 4129) u_FEED)
    (m_TOP : PySem.W.nsIn K mainGlobals "TOP" = some (some u_TOP)) (r_TOP : RelV (.int 32768) u_TOP)
    (m_MOST_SYMBOLS : PySem.W.nsIn K mainGlobals "MOST_SYMBOLS" = some (some u_MOST_SYMBOLS)) (r_MOST_SYMBOLS : RelV (.int 64) u_MOST_SYMBOLS)
    (m_MOST_COUNT : PySem.W.nsIn K mainGlobals "MOST_COUNT" = some (some u_MOST_COUNT)) (r_MOST_COUNT : RelV (.int 1000) u_MOST_COUNT)
    (m_LONGEST : PySem.W.nsIn K mainGlobals "LONGEST" = some (some u_LONGEST)) (r_LONGEST : RelV (.int 15) u_LONGEST)
    (m_MARK : PySem.W.nsIn K mainGlobals "MARK" = some (some (.ref u_MARK))) (kl_MARK : K.lookup u_MARK = some kob_MARK) (ky_MARK : kob_MARK.cls = .type "list") (kd_MARK : kob_MARK.dict = none) (ke_MARK : kob_MARK.data = .seq kits_MARK kn_MARK) (kz_MARK : kits_MARK.size ≤ sizeLine) (kv_MARK : Vals (List.map V.int [165, 90]) kits_MARK.toList)
    (m_SYMBOLS : PySem.W.nsIn K mainGlobals "SYMBOLS" = some (some u_SYMBOLS)) (r_SYMBOLS : RelV (.int 33) u_SYMBOLS)
    (m_BACK : PySem.W.nsIn K mainGlobals "BACK" = some (some u_BACK)) (r_BACK : RelV (.int 32) u_BACK)
    (m_TABLE_BYTES : PySem.W.nsIn K mainGlobals "TABLE_BYTES" = some (some u_TABLE_BYTES)) (r_TABLE_BYTES : RelV (.int 17) u_TABLE_BYTES)
    (m_PLAIN : PySem.W.nsIn K mainGlobals "PLAIN" = some (some u_PLAIN)) (r_PLAIN : RelV (.int 0) u_PLAIN)
    (m_PACKED : PySem.W.nsIn K mainGlobals "PACKED" = some (some u_PACKED)) (r_PACKED : RelV (.int 1) u_PACKED) :
    ∃ fd : FuncData, (∀ (s : Shared) (v : Value), BindsTo s fd ⟨[v], []⟩ [("_law_script", v)]) ∧ ∀ base : Heap, K.In base → base.Ns mainGlobals mg → FnOk l.prog w K mg base CX0 10 fa fd ["_law_script"] (spLaw K) := by
  have e := hfa.symm.trans (PySem.W.mg_of X G a44)
  cases e
  have F0 := fun_mk (st := s_BadPaper_init) l0 c0 k0
  have b0 := F0.binds (ps := ["self", "words", "at"]) fun _ _ _ _ _ _ us hl => match us, hl with | [_, _, _], _ => rfl
  have F1 := fun_mk (st := s_is_whole_bits) l1 c1 k1
  have b1 := F1.binds (ps := ["thing"]) fun _ _ _ _ _ _ us hl => match us, hl with | [_], _ => rfl
  have F2 := fun_mk (st := s_refuse_unless) l2 c2 k2
  have b2 := F2.binds (ps := ["good"]) fun _ _ _ _ _ _ us hl => match us, hl with | [_], _ => rfl
  have F3 := fun_mk (st := s_Writer_init) l3 c3 k3
  have b3 := F3.binds (ps := ["self"]) fun _ _ _ _ _ _ us hl => match us, hl with | [_], _ => rfl
  have F4 := fun_mk (st := s_Writer_put) l4 c4 k4
  have b4 := F4.binds (ps := ["self", "number", "many"]) fun _ _ _ _ _ _ us hl => match us, hl with | [_, _, _], _ => rfl
  have F5 := fun_mk (st := s_Writer_bits) l5 c5 k5
  have b5 := F5.binds (ps := ["self"]) fun _ _ _ _ _ _ us hl => match us, hl with | [_], _ => rfl
  have F6 := fun_mk (st := s_Writer_fill) l6 c6 k6
  have b6 := F6.binds (ps := ["self"]) fun _ _ _ _ _ _ us hl => match us, hl with | [_], _ => rfl
  have F7 := fun_mk (st := s_Writer_row) l7 c7 k7
  have b7 := F7.binds (ps := ["self"]) fun _ _ _ _ _ _ us hl => match us, hl with | [_], _ => rfl
  have F8 := fun_mk (st := s_run_at) l8 c8 k8
  have b8 := F8.binds (ps := ["row", "place", "distance"]) fun _ _ _ _ _ _ us hl => match us, hl with | [_, _, _], _ => rfl
  have F9 := fun_mk (st := s_best_back) l9 c9 k9
  have b9 := F9.binds (ps := ["row", "place", "window"]) fun _ _ _ _ _ _ us hl => match us, hl with | [_, _, _], _ => rfl
  have F10 := fun_mk (st := s_found_in) l10 c10 k10
  have b10 := F10.binds (ps := ["row", "window"]) fun _ _ _ _ _ _ us hl => match us, hl with | [_, _], _ => rfl
  have F11 := fun_mk (st := s_crc_on) l11 c11 k11
  have b11 := F11.binds (ps := ["begun", "row"]) fun _ _ _ _ _ _ us hl => match us, hl with | [_, _], _ => rfl
  have F12 := fun_mk (st := s_crc) l12 c12 k12
  have b12 := F12.binds (ps := ["row"]) fun _ _ _ _ _ _ us hl => match us, hl with | [_], _ => rfl
  have F13 := fun_mk (st := s_crc_row) l13 c13 k13
  have b13 := F13.binds (ps := ["row"]) fun _ _ _ _ _ _ us hl => match us, hl with | [_], _ => rfl
  have F14 := fun_mk (st := s_is_whole_tables) l14 c14 k14
  have b14 := F14.binds (ps := ["thing"]) fun _ _ _ _ _ _ us hl => match us, hl with | [_], _ => rfl
  have F15 := fun_mk (st := s_is_list_of) l15 c15 k15
  have b15 := F15.binds (ps := ["thing", "low", "high"]) fun _ _ _ _ _ _ us hl => match us, hl with | [_, _, _], _ => rfl
  have F16 := fun_mk (st := s_check_counts) l16 c16 k16
  have b16 := F16.binds (ps := ["counts"]) fun _ _ _ _ _ _ us hl => match us, hl with | [_], _ => rfl
  have F17 := fun_mk (st := s_room_of) l17 c17 k17
  have b17 := F17.binds (ps := ["lengths"]) fun _ _ _ _ _ _ us hl => match us, hl with | [_], _ => rfl
  have F18 := fun_mk (st := s_fits) l18 c18 k18
  have b18 := F18.binds (ps := ["lengths"]) fun _ _ _ _ _ _ us hl => match us, hl with | [_], _ => rfl
  have F19 := fun_mk (st := s_check_lengths) l19 c19 k19
  have b19 := F19.binds (ps := ["lengths"]) fun _ _ _ _ _ _ us hl => match us, hl with | [_], _ => rfl
  have F20 := fun_mk (st := s_first_parts) l20 c20 k20
  have b20 := F20.binds (ps := ["counts"]) fun _ _ _ _ _ _ us hl => match us, hl with | [_], _ => rfl
  have F21 := fun_mk (st := s_least_part) l21 c21 k21
  have b21 := F21.binds (ps := ["parts"]) fun _ _ _ _ _ _ us hl => match us, hl with | [_], _ => rfl
  have F22 := fun_mk (st := s_pairs_of) l22 c22 k22
  have b22 := F22.binds (ps := ["counts"]) fun _ _ _ _ _ _ us hl => match us, hl with | [_], _ => rfl
  have F23 := fun_mk (st := s_is_pair) l23 c23 k23
  have b23 := F23.binds (ps := ["pair", "parts"]) fun _ _ _ _ _ _ us hl => match us, hl with | [_, _], _ => rfl
  have F24 := fun_mk (st := s_put_together) l24 c24 k24
  have b24 := F24.binds (ps := ["pair", "parts", "number", "at"]) fun _ _ _ _ _ _ us hl => match us, hl with | [_, _, _, _], _ => rfl
  have F25 := fun_mk (st := s_check_paper) l25 c25 k25
  have b25 := F25.binds (ps := ["counts", "paper"]) fun _ _ _ _ _ _ us hl => match us, hl with | [_, _], _ => rfl
  have F26 := fun_mk (st := s_lengths_by) l26 c26 k26
  have b26 := F26.binds (ps := ["counts", "paper"]) fun _ _ _ _ _ _ us hl => match us, hl with | [_, _], _ => rfl
  have F27 := fun_mk (st := s_least_lengths) l27 c27 k27
  have b27 := F27.binds (ps := ["counts"]) fun _ _ _ _ _ _ us hl => match us, hl with | [_], _ => rfl
  have F28 := fun_mk (st := s_words_of) l28 c28 k28
  have b28 := F28.binds (ps := ["lengths"]) fun _ _ _ _ _ _ us hl => match us, hl with | [_], _ => rfl
  have F29 := fun_mk (st := s_symbol_of) l29 c29 k29
  have b29 := F29.binds (ps := ["token"]) fun _ _ _ _ _ _ us hl => match us, hl with | [_], _ => rfl
  have F30 := fun_mk (st := s_counts_of) l30 c30 k30
  have b30 := F30.binds (ps := ["tokens"]) fun _ _ _ _ _ _ us hl => match us, hl with | [_], _ => rfl
  have F31 := fun_mk (st := s_put_token) l31 c31 k31
  have b31 := F31.binds (ps := ["writer", "words", "token"]) fun _ _ _ _ _ _ us hl => match us, hl with | [_, _, _], _ => rfl
  have F32 := fun_mk (st := s_packed_body) l32 c32 k32
  have b32 := F32.binds (ps := ["row", "window"]) fun _ _ _ _ _ _ us hl => match us, hl with | [_, _], _ => rfl
  have F33 := fun_mk (st := s_body_of) l33 c33 k33
  have b33 := F33.binds (ps := ["row", "window"]) fun _ _ _ _ _ _ us hl => match us, hl with | [_, _], _ => rfl
  have F34 := fun_mk (st := s_piece_row) l34 c34 k34
  have b34 := F34.binds (ps := ["text", "number", "row", "window"]) fun _ _ _ _ _ _ us hl => match us, hl with | [_, _, _, _], _ => rfl
  have F35 := fun_mk (st := s_l_draw) l35 c35 k35
  have b35 := F35.binds (ps := ["_law_cell"]) fun _ _ _ _ _ _ us hl => match us, hl with | [_], _ => rfl
  have F36 := fun_mk (st := s_l_next) l36 c36 k36
  have b36 := F36.binds (ps := ["_law_draw_here", "_law_size"]) fun _ _ _ _ _ _ us hl => match us, hl with | [_, _], _ => rfl
  have F37 := fun_mk (st := s_l_sum) l37 c37 k37
  have b37 := F37.binds (ps := ["_law_row_here"]) fun _ _ _ _ _ _ us hl => match us, hl with | [_], _ => rfl
  have F38 := fun_mk (st := s_l_row) l38 c38 k38
  have b38 := F38.binds (ps := ["_law_draw_here"]) fun _ _ _ _ _ _ us hl => match us, hl with | [_], _ => rfl
  have F39 := fun_mk (st := s_l_bits) l39 c39 k39
  have b39 := F39.binds (ps := ["_law_number", "_law_many"]) fun _ _ _ _ _ _ us hl => match us, hl with | [_, _], _ => rfl
  have F40 := fun_mk (st := s_l_bytes) l40 c40 k40
  have b40 := F40.binds (ps := ["_law_bits_here"]) fun _ _ _ _ _ _ us hl => match us, hl with | [_], _ => rfl
  have F41 := fun_mk (st := s_l_symbols) l41 c41 k41
  have b41 := F41.binds (ps := ["_law_tokens"]) fun _ _ _ _ _ _ us hl => match us, hl with | [_], _ => rfl
  have F42 := fun_mk (st := s_l_packed) l42 c42 k42
  have b42 := F42.binds (ps := ["_law_row_here", "_law_window"]) fun _ _ _ _ _ _ us hl => match us, hl with | [_, _], _ => rfl
  have F43 := fun_mk (st := s_l_due) l43 c43 k43
  have b43 := F43.binds (ps := ["_law_text", "_law_number", "_law_row_here", "_law_window"]) fun _ _ _ _ _ _ us hl => match us, hl with | [_, _, _, _], _ => rfl
  have F44 := fun_mk (st := s_law) l44 c44 k44
  have b44 := F44.binds (ps := ["_law_script"]) fun _ _ _ _ _ _ us hl => match us, hl with | [_], _ => rfl
  exact ⟨_, fun s v => .of_eq rfl, fun base _ _ => ok_law' lawT (K := K) (mg := mg) { a_BadPaper_init := f0, d_BadPaper_init := _, F_BadPaper_init := F0, b_BadPaper_init := b0, a_is_whole_bits := f1, d_is_whole_bits := _, F_is_whole_bits := F1, b_is_whole_bits := b1, g_is_whole_bits := PySem.W.mg_of X G a1, a_refuse_unless := f2, d_refuse_unless := _, F_refuse_unless := F2, b_refuse_unless := b2, g_refuse_unless := PySem.W.mg_of X G a2, a_Writer_init := f3, d_Writer_init := _, F_Writer_init := F3, b_Writer_init := b3, a_Writer_put := f4, d_Writer_put := _, F_Writer_put := F4, b_Writer_put := b4, a_Writer_bits := f5, d_Writer_bits := _, F_Writer_bits := F5, b_Writer_bits := b5, a_Writer_fill := f6, d_Writer_fill := _, F_Writer_fill := F6, b_Writer_fill := b6, a_Writer_row := f7, d_Writer_row := _, F_Writer_row := F7, b_Writer_row := b7, a_run_at := f8, d_run_at := _, F_run_at := F8, b_run_at := b8, g_run_at := PySem.W.mg_of X G a8, a_best_back := f9, d_best_back := _, F_best_back := F9, b_best_back := b9, g_best_back := PySem.W.mg_of X G a9, a_found_in := f10, d_found_in := _, F_found_in := F10, b_found_in := b10, g_found_in := PySem.W.mg_of X G a10, a_crc_on := f11, d_crc_on := _, F_crc_on := F11, b_crc_on := b11, g_crc_on := PySem.W.mg_of X G a11, a_crc := f12, d_crc := _, F_crc := F12, b_crc := b12, g_crc := PySem.W.mg_of X G a12, a_crc_row := f13, d_crc_row := _, F_crc_row := F13, b_crc_row := b13, g_crc_row := PySem.W.mg_of X G a13, a_is_whole_tables := f14, d_is_whole_tables := _, F_is_whole_tables := F14, b_is_whole_tables := b14, g_is_whole_tables := PySem.W.mg_of X G a14, a_is_list_of := f15, d_is_list_of := _, F_is_list_of := F15, b_is_list_of := b15, g_is_list_of := PySem.W.mg_of X G a15, a_check_counts := f16, d_check_counts := _, F_check_counts := F16, b_check_counts := b16, g_check_counts := PySem.W.mg_of X G a16, a_room_of := f17, d_room_of := _, F_room_of := F17, b_room_of := b17, g_room_of := PySem.W.mg_of X G a17, a_fits := f18, d_fits := _, F_fits := F18, b_fits := b18, g_fits := PySem.W.mg_of X G a18, a_check_lengths := f19, d_check_lengths := _, F_check_lengths := F19, b_check_lengths := b19, g_check_lengths := PySem.W.mg_of X G a19, a_first_parts := f20, d_first_parts := _, F_first_parts := F20, b_first_parts := b20, g_first_parts := PySem.W.mg_of X G a20, a_least_part := f21, d_least_part := _, F_least_part := F21, b_least_part := b21, g_least_part := PySem.W.mg_of X G a21, a_pairs_of := f22, d_pairs_of := _, F_pairs_of := F22, b_pairs_of := b22, g_pairs_of := PySem.W.mg_of X G a22, a_is_pair := f23, d_is_pair := _, F_is_pair := F23, b_is_pair := b23, g_is_pair := PySem.W.mg_of X G a23, a_put_together := f24, d_put_together := _, F_put_together := F24, b_put_together := b24, g_put_together := PySem.W.mg_of X G a24, a_check_paper := f25, d_check_paper := _, F_check_paper := F25, b_check_paper := b25, g_check_paper := PySem.W.mg_of X G a25, a_lengths_by := f26, d_lengths_by := _, F_lengths_by := F26, b_lengths_by := b26, g_lengths_by := PySem.W.mg_of X G a26, a_least_lengths := f27, d_least_lengths := _, F_least_lengths := F27, b_least_lengths := b27, g_least_lengths := PySem.W.mg_of X G a27, a_words_of := f28, d_words_of := _, F_words_of := F28, b_words_of := b28, g_words_of := PySem.W.mg_of X G a28, a_symbol_of := f29, d_symbol_of := _, F_symbol_of := F29, b_symbol_of := b29, g_symbol_of := PySem.W.mg_of X G a29, a_counts_of := f30, d_counts_of := _, F_counts_of := F30, b_counts_of := b30, g_counts_of := PySem.W.mg_of X G a30, a_put_token := f31, d_put_token := _, F_put_token := F31, b_put_token := b31, g_put_token := PySem.W.mg_of X G a31, a_packed_body := f32, d_packed_body := _, F_packed_body := F32, b_packed_body := b32, g_packed_body := PySem.W.mg_of X G a32, a_body_of := f33, d_body_of := _, F_body_of := F33, b_body_of := b33, g_body_of := PySem.W.mg_of X G a33, a_piece_row := f34, d_piece_row := _, F_piece_row := F34, b_piece_row := b34, g_piece_row := PySem.W.mg_of X G a34, a_l_draw := f35, d_l_draw := _, F_l_draw := F35, b_l_draw := b35, g_l_draw := PySem.W.mg_of X G a35, a_l_next := f36, d_l_next := _, F_l_next := F36, b_l_next := b36, g_l_next := PySem.W.mg_of X G a36, a_l_sum := f37, d_l_sum := _, F_l_sum := F37, b_l_sum := b37, g_l_sum := PySem.W.mg_of X G a37, a_l_row := f38, d_l_row := _, F_l_row := F38, b_l_row := b38, g_l_row := PySem.W.mg_of X G a38, a_l_bits := f39, d_l_bits := _, F_l_bits := F39, b_l_bits := b39, g_l_bits := PySem.W.mg_of X G a39, a_l_bytes := f40, d_l_bytes := _, F_l_bytes := F40, b_l_bytes := b40, g_l_bytes := PySem.W.mg_of X G a40, a_l_symbols := f41, d_l_symbols := _, F_l_symbols := F41, b_l_symbols := b41, g_l_symbols := PySem.W.mg_of X G a41, a_l_packed := f42, d_l_packed := _, F_l_packed := F42, b_l_packed := b42, g_l_packed := PySem.W.mg_of X G a42, a_l_due := f43, d_l_due := _, F_l_due := F43, b_l_due := b43, g_l_due := PySem.W.mg_of X G a43, a_law := fa, d_law := _, F_law := F44, b_law := b44, g_law := PySem.W.mg_of X G a44, C_Writer := C_Writer, g_Writer := PySem.W.mg_of X G qC_Writer, cl_Writer := ⟨pgC_Writer, hdC_Writer, poC_Writer, saC_Writer⟩, n_Writer_full := nC_Writer_full, n_Writer_begun := nC_Writer_begun, n_Writer_many := nC_Writer_many, K_Writer := ⟨mkC_Writer, a3, i3, kcC_Writer⟩, M_Writer_put := ⟨a4, i4, k4⟩, M_Writer_bits := ⟨a5, i5, k5⟩, M_Writer_fill := ⟨a6, i6, k6⟩, M_Writer_row := ⟨a7, i7, k7⟩, C_ShelfError := C_ShelfError, g_ShelfError := PySem.W.mg_of X G qC_ShelfError, k_ShelfError := k_ShelfError, b_ShelfError := b_ShelfError, t_ShelfError := t_ShelfError, i_ShelfError := i_ShelfError, rd_ShelfError := rd_ShelfError, ra_ShelfError := ra_ShelfError, ri_ShelfError := ri_ShelfError, C_BadBits := C_BadBits, g_BadBits := PySem.W.mg_of X G qC_BadBits, k_BadBits := k_BadBits, b_BadBits := b_BadBits, t_BadBits := t_BadBits, i_BadBits := i_BadBits, x_BadBits := x_BadBits, gb_BadBits := gb_BadBits, gg_BadBits := gg_BadBits, hd_BadBits := hd_BadBits, ca_BadBits := ca_BadBits, cn_BadBits := cn_BadBits, ct_BadBits := ct_BadBits, cm_BadBits := cm_BadBits, xc_BadBits := ⟨gb_BadBits, gg_BadBits, b_BadBits, hd_BadBits, ca_BadBits, cn_BadBits, ct_BadBits, cm_BadBits⟩, C_BadTable := C_BadTable, g_BadTable := PySem.W.mg_of X G qC_BadTable, k_BadTable := k_BadTable, b_BadTable := b_BadTable, t_BadTable := t_BadTable, i_BadTable := i_BadTable, x_BadTable := x_BadTable, gb_BadTable := gb_BadTable, gg_BadTable := gg_BadTable, hd_BadTable := hd_BadTable, ca_BadTable := ca_BadTable, cn_BadTable := cn_BadTable, ct_BadTable := ct_BadTable, cm_BadTable := cm_BadTable, xc_BadTable := ⟨gb_BadTable, gg_BadTable, b_BadTable, hd_BadTable, ca_BadTable, cn_BadTable, ct_BadTable, cm_BadTable⟩, C_BadPaper := C_BadPaper, g_BadPaper := PySem.W.mg_of X G qC_BadPaper, k_BadPaper := k_BadPaper, b_BadPaper := b_BadPaper, t_BadPaper := t_BadPaper, i_BadPaper := i_BadPaper, sa_BadPaper := sa_BadPaper, iC_BadPaper := a0, n_at_BadPaper := n_at_BadPaper, gb_BadPaper := gb_BadPaper, gg_BadPaper := gg_BadPaper, hd_BadPaper := hd_BadPaper, ca_BadPaper := ca_BadPaper, cn_BadPaper := cn_BadPaper, ct_BadPaper := ct_BadPaper, cm_BadPaper := cm_BadPaper, xc_BadPaper := ⟨gb_BadPaper, gg_BadPaper, b_BadPaper, hd_BadPaper, ca_BadPaper, cn_BadPaper, ct_BadPaper, cm_BadPaper⟩, ox_BadPaper := ⟨⟨_, _, _, _, _, _, _, _, _, _, _, _, _, _, _, xL_BadPaper, rfl⟩, sa_BadPaper, b_BadPaper, t_BadPaper, k_BadPaper⟩, tI_BadPaper := beq_iff_eq.mp i0, z_all := PySem.W.mg_none_of X G z_all, z_bool := PySem.W.mg_none_of X G z_bool, z_enumerate := PySem.W.mg_none_of X G z_enumerate, z_int := PySem.W.mg_none_of X G z_int, z_isinstance := PySem.W.mg_none_of X G z_isinstance, z_len := PySem.W.mg_none_of X G z_len, z_list := PySem.W.mg_none_of X G z_list, z_max := PySem.W.mg_none_of X G z_max, z_min := PySem.W.mg_none_of X G z_min, z_range := PySem.W.mg_none_of X G z_range, z_sorted := PySem.W.mg_none_of X G z_sorted, z_str := PySem.W.mg_none_of X G z_str, z_sum := PySem.W.mg_none_of X G z_sum, z_tuple := PySem.W.mg_none_of X G z_tuple, z_zip := PySem.W.mg_none_of X G z_zip, u_MOST_BITS := u_MOST_BITS, m_MOST_BITS := PySem.W.mg_of X G m_MOST_BITS, r_MOST_BITS := r_MOST_BITS, u_LEAST := u_LEAST, m_LEAST := PySem.W.mg_of X G m_LEAST, r_LEAST := r_LEAST, u_MOST := u_MOST, m_MOST := PySem.W.mg_of X G m_MOST, r_MOST := r_MOST, u_BEGIN := u_BEGIN, m_BEGIN := PySem.W.mg_of X G m_BEGIN, r_BEGIN := r_BEGIN, u_FEED := u_FEED, m_FEED := PySem.W.mg_of X G m_FEED, r_FEED := r_FEED, u_TOP := u_TOP, m_TOP := PySem.W.mg_of X G m_TOP, r_TOP := r_TOP, u_MOST_SYMBOLS := u_MOST_SYMBOLS, m_MOST_SYMBOLS := PySem.W.mg_of X G m_MOST_SYMBOLS, r_MOST_SYMBOLS := r_MOST_SYMBOLS, u_MOST_COUNT := u_MOST_COUNT, m_MOST_COUNT := PySem.W.mg_of X G m_MOST_COUNT, r_MOST_COUNT := r_MOST_COUNT, u_LONGEST := u_LONGEST, m_LONGEST := PySem.W.mg_of X G m_LONGEST, r_LONGEST := r_LONGEST, u_MARK := u_MARK, m_MARK := PySem.W.mg_of X G m_MARK, r_MARK := ⟨_, _, _, kl_MARK, ky_MARK, kd_MARK, ke_MARK, kz_MARK, kv_MARK⟩, u_SYMBOLS := u_SYMBOLS, m_SYMBOLS := PySem.W.mg_of X G m_SYMBOLS, r_SYMBOLS := r_SYMBOLS, u_BACK := u_BACK, m_BACK := PySem.W.mg_of X G m_BACK, r_BACK := r_BACK, u_TABLE_BYTES := u_TABLE_BYTES, m_TABLE_BYTES := PySem.W.mg_of X G m_TABLE_BYTES, r_TABLE_BYTES := r_TABLE_BYTES, u_PLAIN := u_PLAIN, m_PLAIN := PySem.W.mg_of X G m_PLAIN, r_PLAIN := r_PLAIN, u_PACKED := u_PACKED, m_PACKED := PySem.W.mg_of X G m_PACKED, r_PACKED := r_PACKED }⟩
theorem walk {l : PySem.W.OpenLaw} {q : Program} {loose : List Str} {XP : (Str → Option Value) → Heap → Prop} {YP : World → Heap → Prop} {d : DefRec} {K : Params → PySem.W.Frag} (hn : l.most = some 63) (hdf : d.params.defaults = [])
    (hY : ∀ (w : World) (h : Heap), YP w h → (K w.params).In h)
    (F : ∀ (w : World) (mg : Str → Option Value) (fa : Addr) (h : Heap), (K w.params).In h → h.Ns mainGlobals mg → mg d.name = some (.ref fa) →
      ∃ fd : FuncData, (∀ (s : Shared) (u : Value), BindsTo s fd ⟨[u], []⟩ [("_law_script", u)]) ∧ ∀ base : Heap, (K w.params).In base → base.Ns mainGlobals mg → FnOk l.prog w (K w.params) mg base CX0 10 fa fd ["_law_script"] (spLaw (K w.params))) :
    PySem.W.WalkO q loose XP YP l.row.toRowW d [] (fun f vs => PySem.call f vs) :=
  L2.walk_of (n := 63) (k := 10) (x := "_law_script") (CX := fun _ => CX0) (sp := fun w => spLaw (K w.params)) hn (by decide) hdf ⟨rfl, by decide, by decide⟩ hY F (fun _ _ a ns hl hO hS => ⟨a, ns, rfl, hS, hl, Z.only_nd hO, fun _ => rfl⟩) fun _ _ _ _ _ z => z
end K31
open PySem PySem.W PyProof.Rows in
set_option maxRecDepth 100000 in
set_option maxHeartbeats 0 in
theorem PySem.Challenge.cw_tornshelf_k31_pieces_made_holds : PySem.Challenge.rw_tornshelf_k31_pieces_made.Holds := by
  w_on; o_law; k_head; (case hw => w_witness2)
  k_fill
  refine K31.walk (l := PySem.Challenge.rw_tornshelf_k31_pieces_made) rfl rfl (fun w h Y => PySem.W.kIn_of Y) ?F
  case F =>
    intro w mg fa h KX G hmg
    refine' K31.all_mk KX G hmg ?a0 ?i0 ?l0 ?c0 ?k0 ?a1 ?l1 ?c1 ?k1 ?a2 ?l2 ?c2 ?k2 ?a3 ?i3 ?l3 ?c3 ?k3 ?a4 ?i4 ?l4 ?c4 ?k4 ?a5 ?i5 ?l5 ?c5 ?k5 ?a6 ?i6 ?l6 ?c6 ?k6 ?a7 ?i7 ?l7 ?c7 ?k7 ?a8 ?l8 ?c8 ?k8 ?a9 ?l9 ?c9 ?k9 ?a10 ?l10 ?c10 ?k10 ?a11 ?l11 ?c11 ?k11 ?a12 ?l12 ?c12 ?k12 ?a13 ?l13 ?c13 ?k13 ?a14 ?l14 ?c14 ?k14 ?a15 ?l15 ?c15 ?k15 ?a16 ?l16 ?c16 ?k16 ?a17 ?l17 ?c17 ?k17 ?a18 ?l18 ?c18 ?k18 ?a19 ?l19 ?c19 ?k19 ?a20 ?l20 ?c20 ?k20 ?a21 ?l21 ?c21 ?k21 ?a22 ?l22 ?c22 ?k22 ?a23 ?l23 ?c23 ?k23 ?a24 ?l24 ?c24 ?k24 ?a25 ?l25 ?c25 ?k25 ?a26 ?l26 ?c26 ?k26 ?a27 ?l27 ?c27 ?k27 ?a28 ?l28 ?c28 ?k28 ?a29 ?l29 ?c29 ?k29 ?a30 ?l30 ?c30 ?k30 ?a31 ?l31 ?c31 ?k31 ?a32 ?l32 ?c32 ?k32 ?a33 ?l33 ?c33 ?k33 ?a34 ?l34 ?c34 ?k34 ?a35 ?l35 ?c35 ?k35 ?a36 ?l36 ?c36 ?k36 ?a37 ?l37 ?c37 ?k37 ?a38 ?l38 ?c38 ?k38 ?a39 ?l39 ?c39 ?k39 ?a40 ?l40 ?c40 ?k40 ?a41 ?l41 ?c41 ?k41 ?a42 ?l42 ?c42 ?k42 ?a43 ?l43 ?c43 ?k43 ?a44 ?l44 ?c44 ?k44 ?qC_Writer ?pgC_Writer ?hdC_Writer ?poC_Writer ?saC_Writer ?mkC_Writer ?kcC_Writer ?nC_Writer_full ?nC_Writer_begun ?nC_Writer_many ?qC_ShelfError ?k_ShelfError ?b_ShelfError ?t_ShelfError ?i_ShelfError ?rd_ShelfError ?ra_ShelfError ?ri_ShelfError ?qC_BadBits ?k_BadBits ?b_BadBits ?t_BadBits ?i_BadBits ?x_BadBits ?gb_BadBits ?gg_BadBits ?hd_BadBits ?ca_BadBits ?cn_BadBits ?ct_BadBits ?cm_BadBits ?qC_BadTable ?k_BadTable ?b_BadTable ?t_BadTable ?i_BadTable ?x_BadTable ?gb_BadTable ?gg_BadTable ?hd_BadTable ?ca_BadTable ?cn_BadTable ?ct_BadTable ?cm_BadTable ?qC_BadPaper ?k_BadPaper ?b_BadPaper ?t_BadPaper ?i_BadPaper ?sa_BadPaper ?n_at_BadPaper ?gb_BadPaper ?gg_BadPaper ?hd_BadPaper ?ca_BadPaper ?cn_BadPaper ?ct_BadPaper ?cm_BadPaper ?xL_BadPaper ?z_all ?z_bool ?z_enumerate ?z_int ?z_isinstance ?z_len ?z_list ?z_max ?z_min ?z_range ?z_sorted ?z_str ?z_sum ?z_tuple ?z_zip ?m_MOST_BITS ?r_MOST_BITS ?m_LEAST ?r_LEAST ?m_MOST ?r_MOST ?m_BEGIN ?r_BEGIN ?m_FEED ?r_FEED ?m_TOP ?r_TOP ?m_MOST_SYMBOLS ?r_MOST_SYMBOLS ?m_MOST_COUNT ?r_MOST_COUNT ?m_LONGEST ?r_LONGEST ?m_MARK ?kl_MARK ?ky_MARK ?kd_MARK ?ke_MARK ?kz_MARK ?kv_MARK ?m_SYMBOLS ?r_SYMBOLS ?m_BACK ?r_BACK ?m_TABLE_BYTES ?r_TABLE_BYTES ?m_PLAIN ?r_PLAIN ?m_PACKED ?r_PACKED
    (case qC_Writer => k_is)
    (case qC_ShelfError => k_is)
    (case qC_BadBits => k_is)
    (case qC_BadTable => k_is)
    (case qC_BadPaper => k_is)
    (case a0 => k_is)
    (case i0 => k_is)
    (case l0 => k_is)
    (case c0 => k_is)
    (case k0 => k_is)
    (case a1 => k_is)
    (case l1 => k_is)
    (case c1 => k_is)
    (case k1 => k_is)
    (case a2 => k_is)
    (case l2 => k_is)
    (case c2 => k_is)
    (case k2 => k_is)
    (case a3 => k_is)
    (case i3 => k_is)
    (case l3 => k_is)
    (case c3 => k_is)
    (case k3 => k_is)
    (case a4 => k_is)
    (case i4 => k_is)
    (case l4 => k_is)
    (case c4 => k_is)
    (case k4 => k_is)
    (case a5 => k_is)
    (case i5 => k_is)
    (case l5 => k_is)
    (case c5 => k_is)
    (case k5 => k_is)
    (case a6 => k_is)
    (case i6 => k_is)
    (case l6 => k_is)
    (case c6 => k_is)
    (case k6 => k_is)
    (case a7 => k_is)
    (case i7 => k_is)
    (case l7 => k_is)
    (case c7 => k_is)
    (case k7 => k_is)
    (case a8 => k_is)
    (case l8 => k_is)
    (case c8 => k_is)
    (case k8 => k_is)
    (case a9 => k_is)
    (case l9 => k_is)
    (case c9 => k_is)
    (case k9 => k_is)
    (case a10 => k_is)
    (case l10 => k_is)
    (case c10 => k_is)
    (case k10 => k_is)
    (case a11 => k_is)
    (case l11 => k_is)
    (case c11 => k_is)
    (case k11 => k_is)
    (case a12 => k_is)
    (case l12 => k_is)
    (case c12 => k_is)
    (case k12 => k_is)
    (case a13 => k_is)
    (case l13 => k_is)
    (case c13 => k_is)
    (case k13 => k_is)
    (case a14 => k_is)
    (case l14 => k_is)
    (case c14 => k_is)
    (case k14 => k_is)
    (case a15 => k_is)
    (case l15 => k_is)
    (case c15 => k_is)
    (case k15 => k_is)
    (case a16 => k_is)
    (case l16 => k_is)
    (case c16 => k_is)
    (case k16 => k_is)
    (case a17 => k_is)
    (case l17 => k_is)
    (case c17 => k_is)
    (case k17 => k_is)
    (case a18 => k_is)
    (case l18 => k_is)
    (case c18 => k_is)
    (case k18 => k_is)
    (case a19 => k_is)
    (case l19 => k_is)
    (case c19 => k_is)
    (case k19 => k_is)
    (case a20 => k_is)
    (case l20 => k_is)
    (case c20 => k_is)
    (case k20 => k_is)
    (case a21 => k_is)
    (case l21 => k_is)
    (case c21 => k_is)
    (case k21 => k_is)
    (case a22 => k_is)
    (case l22 => k_is)
    (case c22 => k_is)
    (case k22 => k_is)
    (case a23 => k_is)
    (case l23 => k_is)
    (case c23 => k_is)
    (case k23 => k_is)
    (case a24 => k_is)
    (case l24 => k_is)
    (case c24 => k_is)
    (case k24 => k_is)
    (case a25 => k_is)
    (case l25 => k_is)
    (case c25 => k_is)
    (case k25 => k_is)
    (case a26 => k_is)
    (case l26 => k_is)
    (case c26 => k_is)
    (case k26 => k_is)
    (case a27 => k_is)
    (case l27 => k_is)
    (case c27 => k_is)
    (case k27 => k_is)
    (case a28 => k_is)
    (case l28 => k_is)
    (case c28 => k_is)
    (case k28 => k_is)
    (case a29 => k_is)
    (case l29 => k_is)
    (case c29 => k_is)
    (case k29 => k_is)
    (case a30 => k_is)
    (case l30 => k_is)
    (case c30 => k_is)
    (case k30 => k_is)
    (case a31 => k_is)
    (case l31 => k_is)
    (case c31 => k_is)
    (case k31 => k_is)
    (case a32 => k_is)
    (case l32 => k_is)
    (case c32 => k_is)
    (case k32 => k_is)
    (case a33 => k_is)
    (case l33 => k_is)
    (case c33 => k_is)
    (case k33 => k_is)
    (case a34 => k_is)
    (case l34 => k_is)
    (case c34 => k_is)
    (case k34 => k_is)
    (case a35 => k_is)
    (case l35 => k_is)
    (case c35 => k_is)
    (case k35 => k_is)
    (case a36 => k_is)
    (case l36 => k_is)
    (case c36 => k_is)
    (case k36 => k_is)
    (case a37 => k_is)
    (case l37 => k_is)
    (case c37 => k_is)
    (case k37 => k_is)
    (case a38 => k_is)
    (case l38 => k_is)
    (case c38 => k_is)
    (case k38 => k_is)
    (case a39 => k_is)
    (case l39 => k_is)
    (case c39 => k_is)
    (case k39 => k_is)
    (case a40 => k_is)
    (case l40 => k_is)
    (case c40 => k_is)
    (case k40 => k_is)
    (case a41 => k_is)
    (case l41 => k_is)
    (case c41 => k_is)
    (case k41 => k_is)
    (case a42 => k_is)
    (case l42 => k_is)
    (case c42 => k_is)
    (case k42 => k_is)
    (case a43 => k_is)
    (case l43 => k_is)
    (case c43 => k_is)
    (case k43 => k_is)
    (case a44 => k_is)
    (case l44 => k_is)
    (case c44 => k_is)
    (case k44 => k_is)
    (case pgC_Writer => k_is)
    (case hdC_Writer => k_is)
    (case poC_Writer => k_is)
    (case saC_Writer => k_is)
    (case mkC_Writer => k_is)
    (case kcC_Writer => k_is)
    (case nC_Writer_full => k_is)
    (case nC_Writer_begun => k_is)
    (case nC_Writer_many => k_is)
    (case k_ShelfError => k_is)
    (case b_ShelfError => k_is)
    (case t_ShelfError => k_is)
    (case i_ShelfError => k_is)
    (case rd_ShelfError => k_is)
    (case ra_ShelfError => k_is)
    (case ri_ShelfError => k_is)
    (case k_BadBits => k_is)
    (case b_BadBits => k_is)
    (case t_BadBits => k_is)
    (case i_BadBits => k_is)
    (case x_BadBits => k_exc)
    (case gb_BadBits => k_is)
    (case gg_BadBits => k_is)
    (case hd_BadBits => k_is)
    (case ca_BadBits => k_is)
    (case cn_BadBits => k_is)
    (case ct_BadBits => k_is)
    (case cm_BadBits => k_is)
    (case k_BadTable => k_is)
    (case b_BadTable => k_is)
    (case t_BadTable => k_is)
    (case i_BadTable => k_is)
    (case x_BadTable => k_exc)
    (case gb_BadTable => k_is)
    (case gg_BadTable => k_is)
    (case hd_BadTable => k_is)
    (case ca_BadTable => k_is)
    (case cn_BadTable => k_is)
    (case ct_BadTable => k_is)
    (case cm_BadTable => k_is)
    (case k_BadPaper => k_is)
    (case b_BadPaper => k_is)
    (case t_BadPaper => k_is)
    (case i_BadPaper => k_is)
    (case sa_BadPaper => k_is)
    (case n_at_BadPaper => k_is)
    (case gb_BadPaper => k_is)
    (case gg_BadPaper => k_is)
    (case hd_BadPaper => k_is)
    (case ca_BadPaper => k_is)
    (case cn_BadPaper => k_is)
    (case ct_BadPaper => k_is)
    (case cm_BadPaper => k_is)
    (case xL_BadPaper => k_is)
    (case z_all => k_is)
    (case z_bool => k_is)
    (case z_enumerate => k_is)
    (case z_int => k_is)
    (case z_isinstance => k_is)
    (case z_len => k_is)
    (case z_list => k_is)
    (case z_max => k_is)
    (case z_min => k_is)
    (case z_range => k_is)
    (case z_sorted => k_is)
    (case z_str => k_is)
    (case z_sum => k_is)
    (case z_tuple => k_is)
    (case z_zip => k_is)
    (case m_MOST_BITS => k_is)
    (case r_MOST_BITS => first | exact ⟨_, rfl⟩ | rfl)
    (case m_LEAST => k_is)
    (case r_LEAST => first | exact ⟨_, rfl⟩ | rfl)
    (case m_MOST => k_is)
    (case r_MOST => first | exact ⟨_, rfl⟩ | rfl)
    (case m_BEGIN => k_is)
    (case r_BEGIN => first | exact ⟨_, rfl⟩ | rfl)
    (case m_FEED => k_is)
    (case r_FEED => first | exact ⟨_, rfl⟩ | rfl)
    (case m_TOP => k_is)
    (case r_TOP => first | exact ⟨_, rfl⟩ | rfl)
    (case m_MOST_SYMBOLS => k_is)
    (case r_MOST_SYMBOLS => first | exact ⟨_, rfl⟩ | rfl)
    (case m_MOST_COUNT => k_is)
    (case r_MOST_COUNT => first | exact ⟨_, rfl⟩ | rfl)
    (case m_LONGEST => k_is)
    (case r_LONGEST => first | exact ⟨_, rfl⟩ | rfl)
    (case m_MARK => k_is)
    (case kl_MARK => k_is)
    (case ky_MARK => exact rfl)
    (case kd_MARK => exact rfl)
    (case ke_MARK => exact rfl)
    (case kz_MARK => decide +kernel)
    (case kv_MARK => repeat (first | exact .nil | refine .cons ⟨_, rfl⟩ ?_))
    (case m_SYMBOLS => k_is)
    (case r_SYMBOLS => first | exact ⟨_, rfl⟩ | rfl)
    (case m_BACK => k_is)
    (case r_BACK => first | exact ⟨_, rfl⟩ | rfl)
    (case m_TABLE_BYTES => k_is)
    (case r_TABLE_BYTES => first | exact ⟨_, rfl⟩ | rfl)
    (case m_PLAIN => k_is)
    (case r_PLAIN => first | exact ⟨_, rfl⟩ | rfl)
    (case m_PACKED => k_is)
    (case r_PACKED => first | exact ⟨_, rfl⟩ | rfl)
