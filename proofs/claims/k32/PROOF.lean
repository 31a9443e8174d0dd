import PyProof.Rows.All
import Wide.All
import OpenK.AllK
import Wide.FinOn
import HandS.ForMost
import HandS.IsInst
import HandS.Flow
import HandS.WideBits
import HandS.Defaults
import HandS.MakeKw
import HandS.Exc
import HandS.ExcOwn
import HandS.TryOnly
import HandS.WordsExc
import HandS.Deep
import HandS.WordsDict
import HandS.Small
import HandS.Conv
import HandS.Text
import KE.KxIndex
import HandS.Codes
import KE.SortData
import HandS.ExcInit
import HandS.ClsMeth
import HandS.ExcField
import HandS.ExcIs
import HandS.TryMany
import KE.KExcIs
import HandS.Replace
import KE.DataMinMax
import PyProof.Claim2Refuses
import KE.KEqDict
import KE.KDictSum
import HandS.Sort
import PyProof.Rows.SeqMore
import KE.KIndexOf
import HandS.SetKeys
import HandS.More
import PyProof.Rows.SortStr
import KE.KStateDown
import HandS.Head0
import HandS.Head1
import HandS.Head2
import HandS.HeadEnd
import HandS.HeadHook1
import HandS.HeadHook2
import KE.GoesMore
import KE.GoesEnum
import HandS.TupAny
import HandS.SetFor
import HandS.SortInts
import HandS.Zip
import HandS.Strs
import PyProof.DictMoreH
import HandS.TupSets
import PySem.Challenge.RW_tornshelf_k32_pieces_at_places
set_option Elab.async false
set_option linter.all false
set_option maxRecDepth 100000
set_option maxHeartbeats 4000000
namespace Z
open PySem L2
def isDT : HO → Bool
  | .dT _ => true
  | .frz _ u => isDT u
  | _ => false
def okA (G : Hp) (a : Addr) : HO → Prop
  | .ins _ dx _ => G dx = some (.own a)
  | .frz _ u => okA G a u
  | _ => True
def kept : HO → Bool
  | .tup _ => true
  | .frz _ _ => true
  | .tbl _ => true
  | _ => false
/-- from H on, H' was reached; G, a part of H', is all that is still told -/
structure Gc (H H' G : Hp) : Prop where
  sub : ∀ a o, G a = some o → H' a = some o
  ok : ∀ a o, G a = some o → okA G a o ∨ (H a = some o ∧ ∀ b, H b = some (.own a) → G b = some (.own a))
  keep : ∀ b o, H b = some o → kept o = true → G b = some o
  dt : (∀ a o, G a = some o → isDT o = false) ∨ ∀ b xs, H' b = some (.tup xs) → G b = some (.tup xs)
section
variable {P : Program} {w : World} {H H' G : Hp} {h : Heap} {a : Addr} {o : HO}
theorem okA_of (x : ObjOk P w H h a o) (k : ∀ b, H b = some (.own a) → G b = some (.own a)) : okA G a o := by
  induction o with
  | ins C dx fs => exact k _ x.1
  | frz ob u ih => exact ih x.2
  | _ => trivial
end
/-- no dict with tuples for keys -/
def ND (H : Hp) : Prop := ∀ a o, H a = some o → isDT o = false
theorem only_nd {H : Hp} (h : L2.Only H) : ND H := fun a o e => by
  rcases h a with q | ⟨o', xs, q⟩
  · rw [q] at e; cases e
  · rw [q] at e; cases e; rfl
section
variable {H H' G H1 : Hp} {p q : Addr} {o : HO}
def flatO : HO → Bool
  | .ins _ _ _ => false
  | .frz _ _ => false
  | .dT _ => false
  | _ => true
theorem okA_flat {G : Hp} {a : Addr} {o : HO} (h : flatO o = true) : okA G a o := by
  cases o <;> first | trivial | cases h
theorem isDT_flat {o : HO} (h : flatO o = true) : isDT o = false := by
  cases o <;> first | rfl | cases h
theorem okA_upd {G : Hp} {a p : Addr} {o u : HO} (e : H' p = some o) (sub : ∀ a o, G a = some o → H' a = some o) (k : okA G a u) : okA (upd G p o) a u := by
  induction u with
  | ins C dx fs =>
    show upd G p o dx = _
    by_cases q : dx = p
    · subst q
      have e2 : H' dx = some (.own a) := sub _ _ k
      rw [e] at e2
      rw [upd_same, e2]
    · rw [upd_ne q]
      exact k
  | frz ob u ih => exact ih k
  | _ => trivial
theorem upd_sub {G : Hp} {p b : Addr} {o u : HO} (e : H' p = some o) (h : H' b = some u) (k : G b = some u) : upd G p o b = some u := by
  by_cases q : b = p
  · subst q
    rw [upd_same, ← e, h]
  · rw [upd_ne q]
    exact k
/-- one more thing is told -/
theorem Gc.put (g : Gc H H' G) (e : H' p = some o) (f : flatO o = true := by rfl) : Gc H H' (upd G p o) where
  sub := fun a u h => by
    by_cases q : a = p
    · subst q; rw [upd_same] at h; cases h; exact e
    · rw [upd_ne q] at h; exact g.sub a u h
  ok := fun a u h => by
    by_cases q : a = p
    · subst q; rw [upd_same] at h; cases h; exact .inl (okA_flat f)
    · rw [upd_ne q] at h
      rcases g.ok a u h with k | ⟨k1, k2⟩
      · exact .inl (okA_upd e g.sub k)
      · exact .inr ⟨k1, fun b hb => upd_sub e (g.sub _ _ (k2 b hb)) (k2 b hb)⟩
  keep := fun b u h k => upd_sub e (g.sub _ _ (g.keep b u h k)) (g.keep b u h k)
  dt := by
    rcases g.dt with d | d
    · refine .inl fun a u h => ?_
      by_cases q : a = p
      · subst q; rw [upd_same] at h; cases h; exact isDT_flat f
      · rw [upd_ne q] at h; exact d a u h
    · exact .inr fun b xs h => upd_sub e h (d b xs h)
theorem upd_none {a : Addr} : upd H p o a = none ↔ a ≠ p ∧ H a = none := by
  unfold upd
  by_cases e : a = p
  · simp [e]
  · simp [e]
end
section
variable {X : Cx}
theorem OpR.or {f : Value → Value → Sem Value} {r r' : R2} (a : OpR X f r) (b : OpR X f r') : OpR X f (fun x y H Q => r x y H Q ∨ r' x y H Q) :=
  fun pins s σ H x y v u Q I rx ry h => h.elim (fun h => a pins s σ H x y v u Q I rx ry h) fun h => b pins s σ H x y v u Q I rx ry h
theorem CallR.or {f : Value} {r r' : List V → Hp → VK → Prop} (a : CallR X f r) (b : CallR X f r') : CallR X f (fun x H Q => r x H Q ∨ r' x H Q) :=
  fun pins s σ H xs us Q I rx h => h.elim (fun h => a pins s σ H xs us Q I rx h) fun h => b pins s σ H xs us Q I rx h
/-- list + list, both to be read -/
def rCatZ (K : PySem.W.Frag) : R2 := fun x y H Q => ∃ l b xs zs, x = .ref l ∧ y = .ref b ∧ SqL K H l xs ∧ SqL K H b zs ∧ xs.length + zs.length ≤ sizeLine ∧ ∀ p, H p = none → Q (.ref p) (upd H p (.lst (xs ++ zs)))
def rAddZ (K : PySem.W.Frag) : R2 := fun x y H Q => (rI0 (fun i j => .int (i + j)) x y H Q ∨ ∃ i j, x = .str i ∧ y = .str j ∧ i.length + j.length ≤ sizeLine ∧ Q (.str (i ++ j)) H) ∨ rCatZ K x y H Q
theorem op_catZ : OpR X (binaryOp .Add) (rCatZ X.K) := by
  intro pins s σ H x y v u Q I rx ry h
  obtain ⟨l, b, xs, zs, rfl, rfl, hH, hB, hz, q⟩ := h
  cases rx
  cases ry
  obtain ⟨its, r, pl, z⟩ := I.list hH
  obtain ⟨its2, r2, pl2, z2⟩ := I.list hB
  have l1 := r.length
  have l2 := r2.length
  obtain ⟨⟨cls, dd, data, sl⟩, ho, hc, n, hd⟩ := pl.isList
  obtain ⟨⟨cls2, dd2, data2, sl2⟩, ho2, hc2, n2, hd2⟩ := pl2.isList
  simp only at hc hd hc2 hd2
  subst hc hd hc2 hd2
  have e : its.toArray ++ its2.toArray = (its ++ its2).toArray := by simp
  refine concat_meets ⟨_, ho, rfl⟩ ⟨_, ho2, rfl⟩ noFill_list_add seq_list_add PySem.F.slot_list_add PySem.F.entry_list_add (PySem.F.args_list_add_2 _ _) (PyProof.Rows.list_addW l b its.toArray its2.toArray n n2 dd dd2 sl sl2 (by simp only [List.size_toArray]; omega)) ⟨ho, ho2, ?_⟩
  rw [e]
  exact ⟨.ref _, _, I.lnew (t' := s.toks) (r.append r2) (by rw [List.length_append]; omega), rfl, q _ I.fresh⟩
theorem op_addZ {K : PySem.W.Frag} (hK : X.K = K) : OpR X (binaryOp .Add) (rAddZ K) := by subst hK; exact OpR.or (OpR.or op_add op_add_str) op_catZ
def rMulZ : R2 := fun x y H Q => rI CMul (fun i j => .int (i * j)) x y H Q ∨ rRep x y H Q
theorem op_mulZ : OpR X (binaryOp .Mult) rMulZ := OpR.or op_mul op_rep
def rEqZ (K : PySem.W.Frag) : R2 := fun x y H Q => rEq x y H Q ∨ rEqD K x y H Q
def rNeZ (K : PySem.W.Frag) : R2 := fun x y H Q => rNe x y H Q ∨ rNeD K x y H Q
theorem op_eqZ {K : PySem.W.Frag} (hK : X.K = K) (hu : X.A.units + 64 < cLine) : OpR X (compareOp .Eq) (rEqZ K) := by subst hK; exact OpR.or op_eq (op_eqD hu)
theorem op_neZ {K : PySem.W.Frag} (hK : X.K = K) (hu : X.A.units + 64 < cLine) : OpR X (compareOp .NotEq) (rNeZ K) := by subst hK; exact OpR.or op_ne (op_neD hu)
end
section
variable {X : Cx}
/-- len of a text, a list, a tuple -/
def rLenZ (K : PySem.W.Frag) : List V → Hp → VK → Prop := fun xs H Q => ∃ x n, xs = [x] ∧ LenV K x H n ∧ Q (.int n) H
theorem call_lenZ {K : PySem.W.Frag} (hK : X.K = K) : CallR X (.builtin "len") (rLenZ K) := by subst hK; exact call_len
def rSlZ (K : PySem.W.Frag) : V → Option Int → Option Int → Hp → VK → Prop := fun x lo hi H Q => rSlL K x lo hi H Q ∨ rSlS x lo hi H Q
theorem sl_Z {K : PySem.W.Frag} (hK : X.K = K) : SlR X (rSlZ K) := by subst hK; exact SlR.or sl_list sl_str
def tTruZ (K : PySem.W.Frag) (ta : TE) : TT := fun σ H Q => ta σ H fun x H' => ∃ k, TruV K x H' k ∧ Q k H'
theorem pt_truthZ {K : PySem.W.Frag} {a : Expr} {ta : TE} (hK : X.K = K) (ha : PE X a ta) (he : ∀ whole, isTrue a X.env whole = (do let v ← whole; standAt a.pos; holding [v] (truthy v))) : PT X a (tTruZ K ta) := by subst hK; exact pt_truth ha he
theorem call_isiZ {K : PySem.W.Frag} (hK : X.K = K) : CallR X (.builtin "isinstance") (rIsi K) := by subst hK; exact call_isi
def rListOf (K : PySem.W.Frag) : List V → Hp → VK → Prop := fun xs H Q => ∃ p ys, xs = [.ref p] ∧ (SqL K H p ys ∨ SqT K H p ys) ∧ ∀ l, H l = none → Q (.ref l) (upd H l (.lst ys))
theorem call_listZ {K : PySem.W.Frag} (hK : X.K = K) : CallR X (.type "list") (rListOf K) := by subst hK; exact call_list_of
theorem cr_sumZ {K : PySem.W.Frag} (hK : X.K = K) (hc : X.calm = true) : CallR X (.builtin "sum") (rSum K) := by subst hK; exact cr_sum hc
theorem cr_allZ {K : PySem.W.Frag} (hK : X.K = K) (hc : X.calm = true) : CallR X (.builtin "all") (rAll K) := by subst hK; exact cr_all hc
theorem cr_anyZ {K : PySem.W.Frag} (hK : X.K = K) (hc : X.calm = true) : CallR X (.builtin "any") (rAny K) := by subst hK; exact cr_any hc
theorem cr_maxZ {K : PySem.W.Frag} (hK : X.K = K) (hc : X.calm = true) : CallR X (.builtin "max") (rMax K) := by subst hK; exact cr_max hc
theorem pi_listZ {K : PySem.W.Frag} {tg l : Expr} {tl : TE} (hK : X.K = K) (hl : PE X l tl) : PI X tg l (iList K tl) := by subst hK; exact pi_list hl
theorem pi_enumZ {K : PySem.W.Frag} {e : Expr} {ta : TA} {p pos tpos : Pos} {elts : List Expr} {kk : Nat} (hK : X.K = K) (hg : Gl X "enumerate") (hm : X.mg "enumerate" = none) (ha : PA X [e] ta) (hs : starEach [e] X.env = [(false, eval e X.env)] := by rfl) :
    PI X (.Tuple elts kk tpos) (.Call (.Name "enumerate" p) [e] [] pos) (iEnum K ta) := by subst hK; exact pi_enum hg hm ha hs
theorem pe_fldZ {K : PySem.W.Frag} {e : Expr} {f : Str} {pos : Pos} {ta : TE} (hK : X.K = K) (he : PE X e ta) (hb : attributeBase e f X.env (eval e X.env) = eval e X.env) : PE X (.Attribute e f pos) (tFld K ta f) := by subst hK; exact pe_fld he hb
theorem pg_tupZ {K : PySem.W.Frag} {es : List Expr} {k : Nat} {t : TGs} {n : Nat} {pos : Pos} (hK : X.K = K) (hc : X.calm = true) (h : PGs X es t)
    (hn : (assignEach es X.env).length = n := by rfl) (hst : (assignEach es X.env).findIdx? (·.1) = none := by rfl) : PG X (.Tuple es k pos) (gTup K n t) := by subst hK; exact pg_tup hc h hn hst
theorem pe_bmZ {K : PySem.W.Frag} {o e : Expr} {es : List Expr} {to : TE} {t : TA} {name : Str} {apos cpos : Pos} {T id : String} {r : V → List V → Hp → VK → Prop} (hK : X.K = K) (pa : PlainAttrs T) (slot : Slot T name id) (hty : typeOf (.builtin id) = pure (.type "method_descriptor")) (hm : MtR X id r) (ho : PE X o to) (ha : PA X (e :: es) t)
    (hbase : attributeBase o name X.env (eval o X.env) = eval o X.env := by rfl)
    (hfew : ((backTo cpos (starEach (e :: es) X.env)).all (fun x => !x.1) && (backToKw cpos (keywordEach [] X.env)).all (fun x => x.1.isSome)
      && decide ((e :: es).length + ([] : List Keyword).length + (if ([] : List Keyword).isEmpty then 0 else 1) < 30)) = true := by rfl)
    (hline : (apos.endLine == cpos.line) = true := by rfl) (hs : starEach (e :: es) X.env = (false, eval e X.env) :: starEach es X.env := by rfl) (hplain : (backTo cpos (starEach es X.env)).any (·.1) = false := by rfl) :
    PE X (.Call (.Attribute o name apos) (e :: es) [] cpos) (tBM K T r to t) := by subst hK; exact pe_bm pa slot hty hm ho ha hbase hfew hline hs hplain
def tCallZ (sp : Sp) (E : XK) (t : TA) : TE := fun σ H Q => t σ H fun vs H1 => sp vs H1 Q E
variable {CX : CXT} {k : Nat} {f C : Addr} {fd : FuncData} {ps : List Str} {sp : Sp} {E : XK} {x m : Str} {p pos apos : Pos} {e o : Expr} {es : List Expr} {ta : TE} {t : TA}
theorem callZ_eq : tCall sp [] E t = tCallZ sp E t := by
  funext σ H Q
  show t σ H (fun vs H1 => sp (vs ++ []) H1 Q E) = t σ H fun vs H1 => sp vs H1 Q E
  simp only [List.append_nil]
theorem pe_callZ (F : FnOk X.prog X.w X.K X.mg X.base CX k f fd ps sp) (hr : Room k X.A) (hg : Gl X x) (hm : X.mg x = some (.ref f)) (hk : PySem.W.keepIn X.K (.ref f) = true) (hb : Binds X.K fd ps []) (hx : Passes CX X E)
    (ha : PA X (e :: es) t) (hdb : (x == ("__debug__" : Str)) = false := by decide) (he : starEach (e :: es) X.env = (false, eval e X.env) :: starEach es X.env := by rfl) (hpl : (backTo pos (starEach es X.env)).any (·.1) = false := by rfl) :
    PE X (.Call (.Name x p) (e :: es) [] pos) (tCallZ sp E t) := by
  rw [← callZ_eq]
  exact pe_call F hr hg hm hk hb .nil hx ha hdb he hpl
end
section
variable {K : PySem.W.Frag} {σ : St} {H : Hp} {nx bk ct : St → Hp → Prop} {rt : VK} {t u : TS} {te ta tb tc : TE} {tt uu : TT} {Q : VK} {QB : Bool → Hp → Prop} {QA : List V → Hp → Prop} {QO : Option Int → Hp → Prop} {v : V} {i : Nat} {b : Bool} {tr : TA}
theorem z_int {Qi : Int → Prop} {i : Int} (h : Qi i) : ∃ j, V.int i = .int j ∧ Qi j := ⟨i, rfl, h⟩
theorem z_if {p A B : Prop} [Decidable p] (h1 : p → A) (h2 : ¬ p → B) : if decide p = true then A else B := by
  by_cases h : p
  · rw [if_pos (decide_eq_true h)]; exact h1 h
  · rw [if_neg (by rw [decide_eq_false h]; exact Bool.false_ne_true)]; exact h2 h
theorem z_iT {A B : Prop} (h : A) : if true = true then A else B := by rw [if_pos rfl]; exact h
theorem z_iF {A B : Prop} (h : B) : if false = true then A else B := by rw [if_neg Bool.false_ne_true]; exact h
theorem z_inF {A B : Prop} (h : A) : if (!false) = true then A else B := h
theorem z_inT {A B : Prop} (h : B) : if (!true) = true then A else B := by
  rw [if_neg (by decide)]; exact h
end
structure Rt (X : Cx) (H : Hp) : Prop where
  keep : ∀ b o, X.H_0 b = some o → kept o = true → ∃ u, H b = some u ∧ kept u = true ∧ (∀ xs, o = .tup xs → u = o) ∧ (∀ ob u', o = .frz ob u' → u = o) ∧ ∀ ps, o = .tbl ps → ∃ more, u = .tbl (ps ++ more)
  cl : ∀ a o (G : Hp), H a = some o → (∀ b, H b = some (.own a) → G b = some (.own a)) → okA G a o
section
variable {X : Cx}
theorem Rt.of {pins : List (Addr × Obj)} {σ : List (Option V)} {H : Hp} {s : Shared} (I : Inv X pins σ H s) : Rt X H where
  keep := fun b o e k => by
    cases o with
    | tup xs => exact ⟨_, I.base.tups b xs e, rfl, fun _ _ => rfl, fun _ _ _ => rfl, fun _ q => nomatch q⟩
    | frz ob u => exact ⟨_, I.base.frzs b ob u e, rfl, fun _ _ => rfl, fun _ _ _ => rfl, fun _ q => nomatch q⟩
    | tbl ps =>
      obtain ⟨more, q⟩ := I.base.tbls b ps e
      exact ⟨_, q, rfl, fun _ z => (nomatch z), fun _ _ z => (nomatch z), fun _ z => by cases z; exact ⟨more, rfl⟩⟩
    | _ => cases k
  cl := fun a o G e k => okA_of (I.hok a o e) k
end
section
variable {K : PySem.W.Frag} {σ : St} {H : Hp} {Q : VK} {R : Hp → Prop}
theorem z_isi {x : V} {n m : String} {b : Bool} (ty : TyX K H x (.type n)) (e : PySem.W.kitOne K (.type n) (.type m) = some b) (h : Q (.bl b) H) : rIsi K [x, .ty m] H Q := ⟨x, .ty m, _, _, b, rfl, .ty m, ty, e, h⟩
end
section
theorem and_nat (a b : Nat) : Builtin.bitAnd (a : Int) (b : Int) = ((a &&& b : Nat) : Int) := by rw [PyProof.Rows.bitAnd_pp (by omega) (by omega)] <;> rfl
theorem xor_nat (a b : Nat) : Builtin.bitXor (a : Int) (b : Int) = ((a ^^^ b : Nat) : Int) := by rw [Bits.bitXor_pp (by omega) (by omega)] <;> rfl
end
/-- a row of bytes -/
def Byt (ns : List Int) : Prop := ∀ n ∈ ns, 0 ≤ n ∧ n < 256
section
variable {K : PySem.W.Frag} {H : Hp} {Q : VK}
theorem canLay_ints : ∀ ns : List Int, PyData.canLayAll0 (ns.map PyData.int) = true
  | [] => rfl
  | n :: ns => by
    show (PyData.canLay0 (.int n) && PyData.canLayAll0 (ns.map PyData.int)) = true
    rw [canLay_ints ns] <;> rfl
theorem depth_ints : ∀ ns : List Int, PyData.depthAll (ns.map PyData.int) = 0
  | [] => rfl
  | n :: ns => by
    show max (PyData.depth (.int n)) (PyData.depthAll (ns.map PyData.int)) = 0
    rw [depth_ints ns] <;> rfl
theorem shaped_ints (ns : List Int) : SeqAt.shaped (.list (ns.map PyData.int)) = true := by
  unfold SeqAt.shaped
  rw [show PyData.canLay0 (.list (ns.map PyData.int)) = true from canLay_ints ns]
  rw [show PyData.depth (.list (ns.map PyData.int)) = 1 from by show PyData.depthAll _ + 1 = 1; rw [depth_ints]] <;> rfl
theorem eqvAll_ints : ∀ ns ms : List Int, PyData.eqvAll (ns.map PyData.int) (ms.map PyData.int) = decide (ns = ms)
  | [], [] => rfl
  | [], m :: ms => rfl
  | n :: ns, [] => rfl
  | n :: ns, m :: ms => by
    show (n == m && PyData.eqvAll (ns.map PyData.int) (ms.map PyData.int)) = _
    rw [eqvAll_ints ns ms]
    by_cases h : n = m
    · subst h; simp
    · simp [h]
theorem eqv_ints (ns ms : List Int) : PyData.eqv (.list (ns.map PyData.int)) (.list (ms.map PyData.int)) = decide (ns = ms) := eqvAll_ints ns ms
end
section
variable {K : PySem.W.Frag} {H H1 H' : Hp} {p q a : Addr} {o u : HO} {xs : List V}
/-- what stood stands, no tuple is new -/
structure Sx (H H1 : Hp) : Prop where
  same : Same H H1
  nt : ∀ b xs, H1 b = some (.tup xs) → H b = some (.tup xs)
end
section
variable {K : PySem.W.Frag} {H H0 H1 H' : Hp} {p q a : Addr} {o u : HO} {xs : List V}
def looseO : HO → Bool
  | .own _ => false
  | .tup _ => false
  | .frz _ _ => false
  | .tbl _ => false
  | _ => true
/-- H0 has more than H: things that may be dropped -/
structure Bs (H H0 : Hp) : Prop where
  same : Same H H0
  back : ∀ b u, H0 b = some u → looseO u = false → H b = some u
end
section
variable {K : PySem.W.Frag} {σ : St} {H : Hp} {Q : VK} {R A B : Prop} {p a : Addr} {xs ys : List V} {y : V}
theorem z_ifR {α : Type} [DecidableEq α] {x : α} (h : A) : if decide (x = x) = true then A else B := by rw [if_pos (decide_eq_true rfl)]; exact h
theorem z_ifnR {α : Type} [DecidableEq α] {x : α} (h : B) : if (!decide (x = x)) = true then A else B := by rw [decide_eq_true (rfl : x = x)]; exact z_inT h
theorem z_ifY {c : Prop} [Decidable c] (hc : c) (h : A) : if decide c = true then A else B := by rw [if_pos (decide_eq_true hc)]; exact h
theorem z_ifN {c : Prop} [Decidable c] (hc : ¬ c) (h : B) : if decide c = true then A else B := by rw [if_neg (by rw [decide_eq_false hc]; exact Bool.false_ne_true)]; exact h
theorem z_ifnY {c : Prop} [Decidable c] (hc : c) (h : B) : if (!decide c) = true then A else B := by rw [decide_eq_true hc]; exact z_inT h
theorem z_ifnN {c : Prop} [Decidable c] (hc : ¬ c) (h : A) : if (!decide c) = true then A else B := by rw [decide_eq_false hc]; exact z_inF h
theorem z_list (hp : SqL K H p ys) (h : ∀ l, H l = none → Q (.ref l) (upd H l (.lst ys))) : rListOf K [.ref p] H Q := ⟨p, ys, rfl, .inl hp, h⟩
end
section
variable {K : PySem.W.Frag} {H : Hp} {Q : VK} {n : Nat}
def rMin2 : List V → Hp → VK → Prop := fun xs H Q => ∃ i j, xs = [.int i, .int j] ∧ Q (.int (if j < i then j else i)) H
def rMax2 : List V → Hp → VK → Prop := fun xs H Q => ∃ i j, xs = [.int i, .int j] ∧ Q (.int (if j > i then j else i)) H
theorem call_min2Z {X : Cx} (hc : X.calm = true) : CallR X (.builtin "min") rMin2 := call_min2 hc
theorem call_max2Z {X : Cx} (hc : X.calm = true) : CallR X (.builtin "max") rMax2 := call_max2 hc
theorem z_min2 {i j : Int} (h : Q (.int (min i j)) H) : rMin2 [.int i, .int j] H Q := ⟨i, j, rfl, by
  have e : (if j < i then j else i) = min i j := by
    by_cases l : j < i
    · rw [if_pos l]; omega
    · rw [if_neg l]; omega
  rw [e]; exact h⟩
theorem z_max2 {i j : Int} (h : Q (.int (max i j)) H) : rMax2 [.int i, .int j] H Q := ⟨i, j, rfl, by
  have e : (if j > i then j else i) = max i j := by
    by_cases l : j > i
    · rw [if_pos l]; omega
    · rw [if_neg l]; omega
  rw [e]; exact h⟩
end
def rFld (K : PySem.W.Frag) (f : Str) (x : V) (H : Hp) (Q : VK) : Prop := ∃ a C dx fs v, x = .ref a ∧ H a = some (.ins C dx fs) ∧ Cls K C ∧ NoAttr K C f ∧ fs.lookup f = some v ∧ Q v H
def wFld (K : PySem.W.Frag) (f : Str) (x y : V) (H : Hp) (R : Hp → Prop) : Prop := ∃ a C dx fs, x = .ref a ∧ H a = some (.ins C dx fs) ∧ Cls K C ∧ NoAttr K C f ∧ fs.length < 1000 ∧ R (upd H a (.ins C dx (putF f y fs)))
def aFld (a C : Addr) (f : Str) (z : V) (H : Hp) (R : Hp → Prop) : Prop := ∃ dx fs, H a = some (.ins C dx fs) ∧ fs.length < 1000 ∧ R (upd H a (.ins C dx (putF f z fs)))
def bFld (K : PySem.W.Frag) (f : Str) (x : V) (H : Hp) (R : Addr → Addr → V → Hp → Prop) : Prop := ∃ a C dx fs v, x = .ref a ∧ H a = some (.ins C dx fs) ∧ Cls K C ∧ NoAttr K C f ∧ fs.lookup f = some v ∧ R a C v H
section
variable {K : PySem.W.Frag} {σ : St} {H : Hp} {nx bk ct : St → Hp → Prop} {rt : VK} {ta tv : TE} {Q : VK} {f : Str}
theorem lkf_hd {k : Str} {v : V} {r : List (Str × V)} : List.lookup k ((k, v) :: r) = some v := by simp [List.lookup]
theorem lkf_tl {k g : Str} {v : V} {r : List (Str × V)} {o : Option V} (h : (k == g) = false) (e : List.lookup k r = o) : List.lookup k ((g, v) :: r) = o := by simp only [List.lookup, h]; exact e
theorem lkf_nil {k : Str} : List.lookup k ([] : List (Str × V)) = none := rfl
theorem ptf_hd {k : Str} {v u : V} {r : List (Str × V)} : putF k v ((k, u) :: r) = (k, v) :: r := if_pos rfl
theorem ptf_tl {k g : Str} {v u : V} {r r' : List (Str × V)} (h : ¬ g = k) (e : putF k v r = r') : putF k v ((g, u) :: r) = (g, u) :: r' := by rw [← e]; exact if_neg h
theorem ptf_nil {k : Str} {v : V} : putF k v [] = [(k, v)] := rfl
/-- methods -/
def rMeth (C : Addr) (m : Str) (R : V → Hp → Prop) (x : V) (H : Hp) : Prop := ∃ a dx fs, x = .ref a ∧ H a = some (.ins C dx fs) ∧ fs.lookup m = none ∧ R x H
theorem z_methR {C a dx : Addr} {m : Str} {fs : List (Str × V)} {R : V → Hp → Prop} (ho : H a = some (.ins C dx fs)) (hl : fs.lookup m = none) (h : R (.ref a) H) : rMeth C m R (.ref a) H := ⟨a, dx, fs, rfl, ho, hl, h⟩
end
section
variable {X : Cx} {CX : CXT} {k : Nat} {f C : Addr} {fd : FuncData} {ps : List Str} {sp : Sp} {E : XK} {x m : Str} {p pos apos : Pos} {e o : Expr} {es : List Expr} {ta : TE} {t : TA}
theorem pe_methZ {pl : Sem Bool} (he : PE X o ta) (c : Cls X.K C) (hm : Meth X.K C m f) (F : FnOk X.prog X.w X.K X.mg X.base CX k f fd ps sp) (hr : Room k X.A) (hb : Binds X.K fd ps []) (hx : Passes CX X E) (ha : PA X (e :: es) t)
    (hst : starEach (e :: es) X.env = (false, eval e X.env) :: starEach es X.env := by rfl) (hpl : (backTo pos (starEach es X.env)).any (·.1) = false := by rfl)
    (ht : eval (.Call (.Attribute o m apos) (e :: es) [] pos) X.env = (do
      let ov ← eval o X.env
      standAt apos.atName
      let (f, first) ← holding [ov] (getMethod ov m pl)
      callWith pos f first (backTo pos (starEach (e :: es) X.env)) (backToKw pos (keywordEach [] X.env))) := by rfl) :
    PE X (.Call (.Attribute o m apos) (e :: es) [] pos) (tMeth C m sp [] E ta t) := pe_meth (pl := pl) he c hm F hr hb .nil hx ha hst hpl ht
theorem pe_meth0Z {pl : Sem Bool} (he : PE X o ta) (c : Cls X.K C) (hm : Meth X.K C m f) (F : FnOk X.prog X.w X.K X.mg X.base CX k f fd ps sp) (hr : Room k X.A) (hb : Binds X.K fd ps []) (hx : Passes CX X E)
    (ht : eval (.Call (.Attribute o m apos) [] [] pos) X.env = (do
      let ov ← eval o X.env
      standAt apos.atName
      let (f, first) ← holding [ov] (getMethod ov m pl)
      callWith pos f first (backTo pos (starEach [] X.env)) (backToKw pos (keywordEach [] X.env))) := by rfl) :
    PE X (.Call (.Attribute o m apos) [] [] pos) (tMeth C m sp [] E ta tNil) := pe_meth0 (pl := pl) he c hm F hr hb .nil hx ht
theorem ps_fldZ {K : PySem.W.Frag} {value : Expr} {f : Str} {pos' : Pos} {tv : TE} (hK : X.K = K) (ha : PE X o ta) (hv : PE X value tv) (hs : swapsWith value (some (.Attribute o f pos')) pos.line X.env = pure false) : PS X (.Assign [.Attribute o f pos'] value pos) (sFld K ta tv f) := by subst hK; exact ps_fld ha hv hs
theorem ps_fldaugZ {K : PySem.W.Frag} {value : Expr} {f : Str} {tpos : Pos} {tv : TE} {op : Operator} {rd : V → V → Hp → VK → Prop} (hK : X.K = K) (ha : PE X o ta) (hv : PE X value tv) (hop : InOp X op rd) : PS X (.AugAssign (.Attribute o f tpos) op value pos) (sFldAug K ta tv rd f) := by subst hK; exact ps_fldaug ha hv hop
end
section
variable {X : Cx} {K : PySem.W.Frag} {H : Hp} {Q : VK}
/-- is, is not: with None, of two truth values -/
theorem op_isB : OpR X (compareOp .Is) (fun x y H Q => ∃ b c, x = .bl b ∧ y = .bl c ∧ Q (.bl (b == c)) H) := by
  intro pins s σ H x y v u Q I rx ry h
  obtain ⟨b, c, rfl, rfl, q⟩ := h
  cases rx
  cases ry
  cases b <;> cases c <;> exact PySem.wpAny_pure (fin_bl I q rfl)
theorem op_isnB : OpR X (compareOp .IsNot) (fun x y H Q => ∃ b c, x = .bl b ∧ y = .bl c ∧ Q (.bl (!(b == c))) H) := by
  intro pins s σ H x y v u Q I rx ry h
  obtain ⟨b, c, rfl, rfl, q⟩ := h
  cases rx
  cases ry
  cases b <;> cases c <;> exact PySem.wpAny_pure (fin_bl I q rfl)
def rIsZ : R2 := fun x y H Q => (y = .non ∧ Q (.bl (decide (x = .non))) H) ∨ ∃ b c, x = .bl b ∧ y = .bl c ∧ Q (.bl (b == c)) H
def rIsnZ : R2 := fun x y H Q => (y = .non ∧ Q (.bl (!decide (x = .non))) H) ∨ ∃ b c, x = .bl b ∧ y = .bl c ∧ Q (.bl (!(b == c))) H
theorem op_isZ : OpR X (compareOp .Is) rIsZ := op_isN.or op_isB
theorem op_isnZ : OpR X (compareOp .IsNot) rIsnZ := op_notN.or op_isnB
end
section
variable {K : PySem.W.Frag} {σ : St} {H : Hp} {Q : St → Hp → Prop} {QV : VK} {a : Addr} {xs : List V} {v : V} {n : Nat} {t : TG} {u : TGs}
theorem z_all {bs : List Bool} (ha : SqL K H a (bs.map V.bl)) (h : QV (.bl (bs.all id)) H) : rAll K [.ref a] H QV := ⟨a, bs, rfl, ha, h⟩
theorem z_any {bs : List Bool} (ha : SqL K H a (bs.map V.bl)) (h : QV (.bl (bs.any id)) H) : rAny K [.ref a] H QV := ⟨a, bs, rfl, ha, h⟩
end
theorem shl_nat (N j : Nat) : (N : Int) * 2 ^ ((j : Int)).toNat = ((N * 2 ^ j : Nat) : Int) := by rw [Int.toNat_natCast, PyProof.Rows.two_pow_cast, Int.natCast_mul]
section
variable {P : Program} {w : World} {K : PySem.W.Frag} {mg : Str → Option Value} {base : Heap}
theorem fd_mk {x qual : Str} {st : Stmt} {f T : Addr} {oc : Value} {od an : Option Addr} {osl : Array (Option Value)} {kV doc pm cdv ct : Value} {o : Obj} {its : List Value} {n : Nat} {dvs : List V} (l : K.lookup f = some ⟨oc, od, .func (PySem.W.fnOf x qual (defArgs st) (defBody st) (defScope st) (.ref T) kV doc pm an cdv ct), osl⟩)
    (c : PySem.W.codeIn K cdv qual = true) (k : PySem.W.keepIn K (.ref f) = true) (lt : K.lookup T = some o) (ot : o.data = .seq its.toArray n) (r : Vals dvs its) (hd : dvs ≠ []) :
    FunD K x qual (defArgs st) (defBody st) (defScope st) dvs [] f (PySem.W.fnOf x qual (defArgs st) (defBody st) (defScope st) (.ref T) kV doc pm an cdv ct) :=
  ⟨⟨oc, od, _, kV, doc, pm, an, cdv, ct, osl, rfl, l, c, Or.inr ⟨hd, T, o, its, n, rfl, lt, ot, r⟩, Or.inl rfl⟩, k⟩
end
/-- a raise of an own class: the way out -/
def tRaiseZ (C : Addr) (W : WX) : TS := fun _ σ H => W (.ref C) none σ H
theorem ps_raiseZ {X : Cx} {W : WX} {C : Addr} {bmB : List Value} {B newId initId : String} {x m : Str} {j : Nat} {p p2 pos pos' : Pos} (hc : X.calm = true) (tk : Takes X W) (F : ExcBaseFacts B newId initId bmB) (q : PySem.W.excIn X.K C bmB newId = true) (gC : X.mg x = some (.ref C)) (kC : PySem.W.keepIn X.K (.ref C) = true) (r : Raises X (.ref C)) (hg : Gl X x)
    (hdb : (x == ("__debug__" : Str)) = false := by decide) : PS X (.Raise (some (.Call (.Name x p) [.Constant (.str m) j p2] [] pos)) none pos') (tRaiseZ C W) := ps_raise hc tk (pmk_own F q gC kC r hg hdb)
end Z
namespace Y
open PySem L2 Z
/-- data -/
inductive D where
  | non | bl (b : Bool) | int (i : Int) | str (x : Str)
  | tup (l : List D) | ctp (l : List D) | lst (l : List D) | clst (l : List D)
  | dK (l : List (Key × D)) | dT (l : List (List Key × D))
  | cid (k : Nat) | ty (n : String)
/-- the classes' places; in a suite: the exception's place, class and dict -/
structure Ct where
  c : Nat → Addr
  xa : Option (Addr × Addr × Option Addr)
  lk : Option Addr
instance : CoeFun Ct (fun _ => Nat → Addr) := ⟨Ct.c⟩
/-- what may be changed -/
inductive Cn where
  | lst (l : List D) | dK (l : List (Key × D)) | dT (l : List (List Key × D)) | obj (c : Nat) (fs : List (Str × D))
structure Exn where
  cls : Nat
  fs : List (Str × D)
inductive Ent where
  | fz (d : D) | ow (c : Cn) | xn (x : Exn)
structure Stt where
  env : List (Option Ent)
  M : List Cn
inductive AI where
  | val (d : D) | slot (i : Nat) | new (c : Cn)
inductive Ro (α : Type) where
  | ok (a : α) (s : Stt) | er (x : Exn) (s : Stt) | no
abbrev Mo (α : Type) := Stt → Ro α
def Ro.bind {α β : Type} (r : Ro α) (f : α → Mo β) : Ro β :=
  match r with
  | .ok a s => f a s
  | .er x s => .er x s
  | .no => .no
inductive Rs where
  | nx (s : Stt) | rt (a : AI) (s : Stt) | bk (s : Stt) | ct (s : Stt) | er (x : Exn) (s : Stt) | no
abbrev Ms := Stt → Rs
/-- a def: what it hands back (a value, or a thing made anew), the objects behind it -/
inductive Fr where
  | ok (a : AI) (M : List Cn) | er (x : Exn) (M : List Cn) | no
abbrev Mf := List D → List Cn → Fr
def Cn.toD : Cn → D
  | .lst l => .lst l
  | .dK l => .dK l
  | .dT l => .dT l
  | .obj _ _ => .non
def Cn.isC : Cn → Bool
  | .obj _ _ => false
  | _ => true
mutual
inductive Rp (K : PySem.W.Frag) (G : Hp) (α : Nat → Addr) (n : Nat) : V → D → Prop
  | non : Rp K G α n .non .non
  | bl (b : Bool) : Rp K G α n (.bl b) (.bl b)
  | int (i : Int) : Rp K G α n (.int i) (.int i)
  | str (x : Str) : Rp K G α n (.str x) (.str x)
  | tup {a : Addr} {vs : List V} {l : List D} : G a = some (.tup vs) → RpL K G α n vs l → Rp K G α n (.ref a) (.tup l)
  | ctp {a : Addr} {vs : List V} {l : List D} : SqT K G a vs → RpL K G α n vs l → Rp K G α n (.ref a) (.ctp l)
  | lst {a : Addr} {vs : List V} {l : List D} : G a = some (.lst vs) → RpL K G α n vs l → Rp K G α n (.ref a) (.lst l)
  | clst {a : Addr} {vs : List V} {l : List D} : SqL K G a vs → RpL K G α n vs l → Rp K G α n (.ref a) (.clst l)
  | dK {a : Addr} {kvs : List (Key × V)} {l : List (Key × D)} : G a = some (.dK kvs) → kvs.map Prod.fst = l.map Prod.fst → RpL K G α n (kvs.map Prod.snd) (l.map Prod.snd) → Rp K G α n (.ref a) (.dK l)
  | dT {a : Addr} {kvs : List (List Key × V)} {l : List (List Key × D)} : G a = some (.dT kvs) → kvs.map Prod.fst = l.map Prod.fst → RpL K G α n (kvs.map Prod.snd) (l.map Prod.snd) → Rp K G α n (.ref a) (.dT l)
  | cid {k : Nat} : k < n → Rp K G α n (.ref (α k)) (.cid k)
  | ty (m : String) : Rp K G α n (.ty m) (.ty m)
inductive RpL (K : PySem.W.Frag) (G : Hp) (α : Nat → Addr) (n : Nat) : List V → List D → Prop
  | nil : RpL K G α n [] []
  | cons {v : V} {vs : List V} {d : D} {l : List D} : Rp K G α n v d → RpL K G α n vs l → RpL K G α n (v :: vs) (d :: l)
end
theorem rd_mono {G G' : Hp} {a : Addr} {u : HO} (s : Same G G') (h : Rd G a u) : Rd G' a u := by
  rcases h with h | ⟨o, h⟩
  · exact .inl (s _ _ h)
  · exact .inr ⟨o, s _ _ h⟩
theorem st_mono {K : PySem.W.Frag} {G G' : Hp} {a : Addr} {xs : List V} (s : Same G G') (h : SqT K G a xs) : SqT K G' a xs := by
  rcases h with h | h
  · exact .inl (rd_mono s h)
  · exact .inr h
section
variable {K : PySem.W.Frag} {G G' : Hp} {α α' : Nat → Addr} {n n' : Nat}
mutual
theorem Rp.mono (s : Same G G') (ha : ∀ k, k < n → α' k = α k) (hn : n ≤ n') : ∀ {v : V} {d : D}, Rp K G α n v d → Rp K G' α' n' v d
  | _, _, .non => .non
  | _, _, .bl b => .bl b
  | _, _, .int i => .int i
  | _, _, .str x => .str x
  | _, _, .ty x => .ty x
  | _, _, .tup h r => .tup (s _ _ h) (RpL.mono s ha hn r)
  | _, _, .ctp h r => .ctp (st_mono s h) (RpL.mono s ha hn r)
  | _, _, .lst h r => .lst (s _ _ h) (RpL.mono s ha hn r)
  | _, _, .clst h r => .clst (s.seq h) (RpL.mono s ha hn r)
  | _, _, .dK h e r => .dK (s _ _ h) e (RpL.mono s ha hn r)
  | _, _, .dT h e r => .dT (s _ _ h) e (RpL.mono s ha hn r)
  | _, _, .cid (k := k) h => by
    have e := ha k h
    rw [← e]
    exact .cid (Nat.lt_of_lt_of_le h hn)
theorem RpL.mono (s : Same G G') (ha : ∀ k, k < n → α' k = α k) (hn : n ≤ n') : ∀ {vs : List V} {l : List D}, RpL K G α n vs l → RpL K G' α' n' vs l
  | _, _, .nil => .nil
  | _, _, .cons h r => .cons (Rp.mono s ha hn h) (RpL.mono s ha hn r)
end
theorem RpL.length : ∀ {vs : List V} {l : List D}, RpL K G α n vs l → vs.length = l.length
  | _, _, .nil => rfl
  | _, _, .cons _ r => by rw [List.length_cons, List.length_cons, RpL.length r]
theorem RpL.append : ∀ {vs us : List V} {l m : List D}, RpL K G α n vs l → RpL K G α n us m → RpL K G α n (vs ++ us) (l ++ m)
  | _, _, _, _, .nil, h => h
  | _, _, _, _, .cons a r, h => .cons a (r.append h)
theorem RpL.get : ∀ {vs : List V} {l : List D} {i : Nat} {d : D}, RpL K G α n vs l → l[i]? = some d → ∃ v, vs[i]? = some v ∧ Rp K G α n v d
  | _, _, _, _, .nil, e => by simp at e
  | _, _, 0, _, .cons a _, e => ⟨_, rfl, by simp at e; subst e; exact a⟩
  | _, _, i + 1, d, .cons _ r, e => by
    obtain ⟨v, h1, h2⟩ := RpL.get (i := i) (d := d) r (by simpa using e)
    exact ⟨v, by simpa using h1, h2⟩
theorem RpL.set {v : V} {d : D} (h : Rp K G α n v d) : ∀ {vs : List V} {l : List D} (i : Nat), RpL K G α n vs l → RpL K G α n (vs.set i v) (l.set i d)
  | _, _, _, .nil => .nil
  | _, _, 0, .cons _ r => .cons h r
  | _, _, i + 1, .cons a r => .cons a (RpL.set h i r)
theorem RpL.take : ∀ {vs : List V} {l : List D} (i : Nat), RpL K G α n vs l → RpL K G α n (vs.take i) (l.take i)
  | _, _, 0, _ => .nil
  | _, _, _ + 1, .nil => .nil
  | _, _, i + 1, .cons a r => .cons a (r.take i)
theorem RpL.drop : ∀ {vs : List V} {l : List D} (i : Nat), RpL K G α n vs l → RpL K G α n (vs.drop i) (l.drop i)
  | _, _, 0, h => h
  | _, _, _ + 1, .nil => .nil
  | _, _, i + 1, .cons _ r => r.drop i
end
def strip : Option HO → Option HO
  | some (.frz _ (.dK k)) => some (.dK k)
  | some (.frz _ (.dT k)) => some (.dT k)
  | x => x
/-- b: the dict that is locked, if any -/
def U (b : Option Addr) (H : Hp) : Hp := fun a => if b = some a then strip (H a) else H a
section
variable {K : PySem.W.Frag} {b : Option Addr} {H : Hp} {a p : Addr} {o : HO} {vs : List V}
theorem U0 : U none H = H := by funext a; unfold U; rw [if_neg (by simp)]
theorem U_same {H' : Hp} (h : H' a = H a) : U b H' a = U b H a := by unfold U; rw [h]
theorem U_none (h : H a = none) : U b H a = none := by unfold U; rw [h]; split <;> rfl
theorem U_ne (h : a ≠ p) : U b (upd H p o) a = U b H a := U_same (upd_ne h)
theorem uL (h : H a = some (.lst vs)) : U b H a = some (.lst vs) := by unfold U; rw [h]; split <;> rfl
theorem uP (h : H a = some (.tup vs)) : U b H a = some (.tup vs) := by unfold U; rw [h]; split <;> rfl
theorem uK {k : List (Key × V)} (h : H a = some (.dK k)) : U b H a = some (.dK k) := by unfold U; rw [h]; split <;> rfl
theorem uT {k : List (List Key × V)} (h : H a = some (.dT k)) : U b H a = some (.dT k) := by unfold U; rw [h]; split <;> rfl
theorem U_cases (b : Option Addr) (H : Hp) (a : Addr) : U b H a = H a ∨ (∃ o k, H a = some (.frz o (.dK k)) ∧ U b H a = some (.dK k)) ∨ ∃ o k, H a = some (.frz o (.dT k)) ∧ U b H a = some (.dT k) := by
  unfold U
  split
  · unfold strip
    split
    · rename_i o k h; exact .inr (.inl ⟨o, k, h, rfl⟩)
    · rename_i o k h; exact .inr (.inr ⟨o, k, h, rfl⟩)
    · exact .inl rfl
  · exact .inl rfl
theorem uL' (h : U b H a = some (.lst vs)) : H a = some (.lst vs) := by
  rcases U_cases b H a with e | ⟨o, k, _, e⟩ | ⟨o, k, _, e⟩
  · rw [e] at h; exact h
  · rw [e] at h; cases h
  · rw [e] at h; cases h
theorem uP' (h : U b H a = some (.tup vs)) : H a = some (.tup vs) := by
  rcases U_cases b H a with e | ⟨o, k, _, e⟩ | ⟨o, k, _, e⟩
  · rw [e] at h; exact h
  · rw [e] at h; cases h
  · rw [e] at h; cases h
theorem uF' {o : Obj} {u : HO} (h : U b H a = some (.frz o u)) : H a = some (.frz o u) := by
  rcases U_cases b H a with e | ⟨o, k, _, e⟩ | ⟨o, k, _, e⟩
  · rw [e] at h; exact h
  · rw [e] at h; cases h
  · rw [e] at h; cases h
theorem uK' {k : List (Key × V)} (h : U b H a = some (.dK k)) : Rd H a (.dK k) := by
  rcases U_cases b H a with e | ⟨o, k', q, e⟩ | ⟨o, k', q, e⟩
  · rw [e] at h; exact .inl h
  · rw [e] at h; cases h; exact .inr ⟨o, q⟩
  · rw [e] at h; cases h
theorem uT' {k : List (List Key × V)} (h : U b H a = some (.dT k)) : Rd H a (.dT k) := by
  rcases U_cases b H a with e | ⟨o, k', q, e⟩ | ⟨o, k', q, e⟩
  · rw [e] at h; exact .inl h
  · rw [e] at h; cases h
  · rw [e] at h; cases h; exact .inr ⟨o, q⟩
theorem U_grow {H' : Hp} {u : HO} (k : ∀ o, H a = some o → H' a = some o) (h : U b H a = some u) : U b H' a = some u := by
  cases q : H a with
  | none => rw [U_none q] at h; cases h
  | some o =>
    have e : U b H' a = U b H a := U_same (by rw [k o q, q])
    rw [e]; exact h
theorem uSqL (h : SqL K (U b H) a vs) : SqL K H a vs := by
  rcases h with (h | ⟨o, h⟩) | h
  · exact .inl (.inl (uL' h))
  · exact .inl (.inr ⟨o, uF' h⟩)
  · exact .inr h
theorem uSqT (h : SqT K (U b H) a vs) : SqT K H a vs := by
  rcases h with (h | ⟨o, h⟩) | h
  · exact .inl (.inl (uP' h))
  · exact .inl (.inr ⟨o, uF' h⟩)
  · exact .inr h
end
inductive Lab where
  | id (k : Nat) | slot (i : Nat)
  deriving DecidableEq
structure Sh where
  G : Hp
  α : Nat → Addr
  lab : Addr → Option Lab
def CnOk (K : PySem.W.Frag) (ct : Ct) (S : Sh) (n : Nat) (H : Hp) (p : Addr) : Cn → Prop
  | .lst l => ∃ vs, H p = some (.lst vs) ∧ RpL K S.G S.α n vs l
  | .dK l => ∃ kvs, H p = some (.dK kvs) ∧ kvs.map Prod.fst = l.map Prod.fst ∧ RpL K S.G S.α n (kvs.map Prod.snd) (l.map Prod.snd)
  | .dT l => ∃ kvs, H p = some (.dT kvs) ∧ kvs.map Prod.fst = l.map Prod.fst ∧ RpL K S.G S.α n (kvs.map Prod.snd) (l.map Prod.snd)
  | .obj c fs => ∃ dx fvs, H p = some (.ins (ct c) dx fvs) ∧ fvs.map Prod.fst = fs.map Prod.fst ∧ RpL K S.G S.α n (fvs.map Prod.snd) (fs.map Prod.snd)
def XOk (K : PySem.W.Frag) (S : Sh) (n : Nat) (H : Hp) (x : Exn) (dd : Option Addr) : Prop :=
  (x.fs = [] ∧ dd = none) ∨ ∃ d fvs, dd = some d ∧ S.G d = some (.xd fvs) ∧ fvs.map Prod.fst = x.fs.map Prod.fst ∧ RpL K S.G S.α n (fvs.map Prod.snd) (x.fs.map Prod.snd)
theorem XOk.mono {K : PySem.W.Frag} {S S' : Sh} {n n' : Nat} {H H' : Hp} {x : Exn} {dd : Option Addr} (g : Same S.G S'.G) (al : ∀ k, k < n → S'.α k = S.α k) (hn : n ≤ n') (h : XOk K S n H x dd) : XOk K S' n' H' x dd := by
  rcases h with h | ⟨d, fvs, e, h1, h2, h3⟩
  · exact .inl h
  · exact .inr ⟨d, fvs, e, g _ _ h1, h2, h3.mono g al hn⟩
def EntOk (K : PySem.W.Frag) (ct : Ct) (H0 : Hp) (S : Sh) (n : Nat) (σ : St) (H : Hp) (i : Nat) : Ent → Prop
  | .fz d => ∃ v, σ[i]? = some (some v) ∧ Rp K S.G S.α n v d
  | .ow c => ∃ p, σ[i]? = some (some (.ref p)) ∧ H0 p = none ∧ S.lab p = some (.slot i) ∧ c.isC = true ∧ CnOk K ct S n H p c
  | .xn x => ∃ a d, ct.xa = some (a, ct x.cls, d) ∧ σ[i]? = some (some (.ref a)) ∧ XOk K S n H x d
theorem xn_mono {K : PySem.W.Frag} {ct : Ct} {H0 : Hp} {S S' : Sh} {n n' : Nat} {σ σ' : St} {H H' : Hp} {i : Nat} {x : Exn} (g : Same S.G S'.G) (al : ∀ k, k < n → S'.α k = S.α k) (hn : n ≤ n') (hs : σ'[i]? = σ[i]?) (h : EntOk K ct H0 S n σ H i (.xn x)) : EntOk K ct H0 S' n' σ' H' i (.xn x) := by
  obtain ⟨a, d, h1, h2, h3⟩ := h
  exact ⟨a, d, h1, hs.trans h2, h3.mono g al hn⟩
structure Rel (K : PySem.W.Frag) (ct : Ct) (H0 : Hp) (S : Sh) (s : Stt) (σ : St) (H : Hp) : Prop where
  sub : Same S.G (U ct.lk H)
  lg : ∀ a l, S.lab a = some l → S.G a = none ∧ ∃ o, H a = some o
  dom : ∀ a, H a = none → H0 a = none
  len : σ.length = s.env.length
  slot : ∀ i e, s.env[i]? = some (some e) → EntOk K ct H0 S s.M.length σ H i e
  ids : ∀ k c, s.M[k]? = some c → S.lab (S.α k) = some (.id k) ∧ CnOk K ct S s.M.length H (S.α k) c
structure Stp (S : Sh) (n : Nat) (H : Hp) (S' : Sh) (n' : Nat) (H' : Hp) : Prop where
  g : Same S.G S'.G
  le : n ≤ n'
  al : ∀ k, k < n → S'.α k = S.α k
  fr : ∀ a o, H a = some o → S.lab a = none → H' a = some o ∧ S'.lab a = none
  gn : ∀ a o, S'.G a = some o → S.G a = some o ∨ H a = none ∨ ∃ l, S.lab a = some l
  dom : ∀ a, H' a = none → H a = none
section
variable {S S' S'' : Sh} {n n' n'' : Nat} {H H' H'' : Hp}
theorem Stp.refl : Stp S n H S n H := ⟨fun _ _ e => e, Nat.le_refl _, fun _ _ => rfl, fun _ _ h l => ⟨h, l⟩, fun _ _ h => .inl h, fun _ h => h⟩
theorem Stp.trans (a : Stp S n H S' n' H') (b : Stp S' n' H' S'' n'' H'') : Stp S n H S'' n'' H'' where
  g := fun x o e => b.g x o (a.g x o e)
  le := Nat.le_trans a.le b.le
  al := fun k hk => (b.al k (Nat.lt_of_lt_of_le hk a.le)).trans (a.al k hk)
  fr := fun x o h l => by
    obtain ⟨h1, l1⟩ := a.fr x o h l
    exact b.fr x o h1 l1
  gn := fun x o e => by
    rcases b.gn x o e with h | h | ⟨l, h⟩
    · exact a.gn x o h
    · exact .inr (.inl (a.dom x h))
    · cases q : H x with
      | none => exact .inr (.inl rfl)
      | some u =>
        cases ql : S.lab x with
        | none =>
          have := (a.fr x u q ql).2
          rw [this] at h; cases h
        | some l' => exact .inr (.inr ⟨l', rfl⟩)
  dom := fun x h => a.dom x (b.dom x h)
theorem Rp.step {K : PySem.W.Frag} {v : V} {d : D} (t : Stp S n H S' n' H') (h : Rp K S.G S.α n v d) : Rp K S'.G S'.α n' v d := h.mono t.g t.al t.le
theorem RpL.step {K : PySem.W.Frag} {v : List V} {d : List D} (t : Stp S n H S' n' H') (h : RpL K S.G S.α n v d) : RpL K S'.G S'.α n' v d := h.mono t.g t.al t.le
end
theorem CnOk.mono {K : PySem.W.Frag} {ct : Ct} {S S' : Sh} {n n' : Nat} {H H' : Hp} {p : Addr} {c : Cn} (g : Same S.G S'.G) (al : ∀ k, k < n → S'.α k = S.α k) (hn : n ≤ n') (e : ∀ o, H p = some o → H' p = some o) (h : CnOk K ct S n H p c) : CnOk K ct S' n' H' p c := by
  cases c with
  | lst l => obtain ⟨vs, h1, h2⟩ := h; exact ⟨vs, e _ h1, h2.mono g al hn⟩
  | dK l => obtain ⟨vs, h1, h3, h2⟩ := h; exact ⟨vs, e _ h1, h3, h2.mono g al hn⟩
  | dT l => obtain ⟨vs, h1, h3, h2⟩ := h; exact ⟨vs, e _ h1, h3, h2.mono g al hn⟩
  | obj c fs => obtain ⟨dx, vs, h1, h3, h2⟩ := h; exact ⟨dx, vs, e _ h1, h3, h2.mono g al hn⟩
theorem CnOk.some {K : PySem.W.Frag} {ct : Ct} {S : Sh} {n : Nat} {H : Hp} {p : Addr} {c : Cn} (h : CnOk K ct S n H p c) : ∃ o, H p = some o := by
  cases c with
  | lst l => obtain ⟨vs, h1, _⟩ := h; exact ⟨_, h1⟩
  | dK l => obtain ⟨vs, h1, _⟩ := h; exact ⟨_, h1⟩
  | dT l => obtain ⟨vs, h1, _⟩ := h; exact ⟨_, h1⟩
  | obj c fs => obtain ⟨_, vs, h1, _⟩ := h; exact ⟨_, h1⟩
section
variable {K : PySem.W.Frag} {ct : Ct} {H0 : Hp} {S S' : Sh} {s s' : Stt} {σ : St} {H H' : Hp} {p : Addr} {o : HO}
theorem Rel.labN (r : Rel K ct H0 S s σ H) {a : Addr} (h : H a = none) : S.lab a = none := by
  cases q : S.lab a with
  | none => rfl
  | some l => obtain ⟨_, o, e⟩ := r.lg a l q; rw [e] at h; cases h
theorem Rel.gN (r : Rel K ct H0 S s σ H) {a : Addr} (h : H a = none) : S.G a = none := by
  cases q : S.G a with
  | none => rfl
  | some l => have := r.sub a l q; rw [U_none h] at this; cases this
/-- a new thing that nobody has yet -/
theorem Rel.new (r : Rel K ct H0 S s σ H) (hp : H p = none) : Rel K ct H0 S s σ (upd H p o) := by
  have ne : ∀ {a : Addr} {u : HO}, H a = some u → upd H p o a = some u := fun {a u} e => by rw [upd_ne (ne_of_none e hp)]; exact e
  have cn : ∀ {a : Addr} {c : Cn}, CnOk K ct S s.M.length H a c → CnOk K ct S s.M.length (upd H p o) a c := fun {a c} h => h.mono (fun _ _ e => e) (fun _ _ => rfl) (Nat.le_refl _) (fun _ e => ne e)
  refine ⟨fun a u e => by rw [U_ne (fun z => by subst z; rw [r.gN hp] at e; cases e)]; exact r.sub a u e, fun a l e => ?_, fun a e => ?_, r.len, fun i e h => ?_, fun k c h => ?_⟩
  · obtain ⟨h1, u, h2⟩ := r.lg a l e
    exact ⟨h1, u, ne h2⟩
  · exact r.dom a (upd_none.mp e).2
  · have q := r.slot i e h
    cases e with
    | fz d => exact q
    | xn x => exact xn_mono (fun _ _ e => e) (fun _ _ => rfl) (Nat.le_refl _) rfl q
    | ow c =>
      obtain ⟨a, h1, h2, h3, h4, h5⟩ := q
      exact ⟨a, h1, h2, h3, h4, cn h5⟩
  · obtain ⟨h1, h2⟩ := r.ids k c h
    exact ⟨h1, cn h2⟩
theorem Stp.new (r : Rel K ct H0 S s σ H) (hp : H p = none) {n : Nat} : Stp S n H S n (upd H p o) where
  g := fun _ _ e => e
  le := Nat.le_refl _
  al := fun _ _ => rfl
  fr := fun a u h l => ⟨by rw [upd_ne (ne_of_none h hp)]; exact h, l⟩
  gn := fun _ _ e => .inl e
  dom := fun a e => (upd_none.mp e).2
def Sh.frz (S : Sh) (p : Addr) (o : HO) : Sh := ⟨upd S.G p o, S.α, S.lab⟩
/-- what nobody has is frozen -/
theorem Rel.frz (r : Rel K ct H0 S s σ H) (hp : U ct.lk H p = some o) (hl : S.lab p = none) (hg : S.G p = none) : Rel K ct H0 (S.frz p o) s σ H := by
  have sg : Same S.G (S.frz p o).G := fun a u e => by show upd S.G p o a = _; rw [upd_ne (ne_of_none e hg)]; exact e
  have cn : ∀ {a : Addr} {c : Cn}, CnOk K ct S s.M.length H a c → CnOk K ct (S.frz p o) s.M.length H a c := fun {a c} h => h.mono sg (fun _ _ => rfl) (Nat.le_refl _) (fun _ e => e)
  refine ⟨fun a u e => ?_, fun a l e => ?_, r.dom, r.len, fun i e h => ?_, fun k c h => ?_⟩
  · have e : upd S.G p o a = some u := e
    by_cases q : a = p
    · subst q; rw [upd_same] at e; cases e; exact hp
    · rw [upd_ne q] at e; exact r.sub a u e
  · have e1 : S.lab a = some l := e
    obtain ⟨h1, h2⟩ := r.lg a l e1
    refine ⟨?_, h2⟩
    show upd S.G p o a = none
    rw [upd_ne (fun z => by subst z; rw [e1] at hl; cases hl)]
    exact h1
  · have q := r.slot i e h
    cases e with
    | fz d => obtain ⟨v, h1, h2⟩ := q; exact ⟨v, h1, h2.mono sg (fun _ _ => rfl) (Nat.le_refl _)⟩
    | xn x => exact xn_mono sg (fun _ _ => rfl) (Nat.le_refl _) rfl q
    | ow c =>
      obtain ⟨a, h1, h2, h3, h4, h5⟩ := q
      exact ⟨a, h1, h2, h3, h4, cn h5⟩
  · obtain ⟨h1, h2⟩ := r.ids k c h
    exact ⟨h1, cn h2⟩
theorem Stp.frz {n : Nat} (hg : S.G p = none) (hs : H p = none ∨ ∃ l, S.lab p = some l) (hd : ∀ a, H' a = none → H a = none) (fr : ∀ a u, H a = some u → S.lab a = none → H' a = some u) : Stp S n H (S.frz p o) n H' where
  g := fun a u e => by show upd S.G p o a = _; rw [upd_ne (ne_of_none e hg)]; exact e
  le := Nat.le_refl _
  al := fun _ _ => rfl
  fr := fun a u h l => ⟨fr a u h l, l⟩
  gn := fun a u e => by
    have e : upd S.G p o a = some u := e
    by_cases q : a = p
    · subst q; exact .inr hs
    · rw [upd_ne q] at e; exact .inl e
  dom := hd
end
end Y
namespace Y
open PySem L2 Z
def ItOk (K : PySem.W.Frag) (ct : Ct) (Hs : Hp) (S : Sh) (s : Stt) (σ : St) (H : Hp) (v : V) : AI → Prop
  | .val d => Rp K S.G S.α s.M.length v d
  | .slot i => σ[i]? = some (some v)
  | .new c => ∃ p, v = .ref p ∧ Hs p = none ∧ S.lab p = none ∧ S.G p = none ∧ c.isC = true ∧ CnOk K ct S s.M.length H p c
/-- how a result is told: the heap ahead, the state behind, the thing, its data -/
abbrev RR (β α : Type) := Hp → Sh → Stt → St → Hp → β → α → Prop
section
variable {K : PySem.W.Frag} {ct : Ct} {H0 : Hp} {W : WX}
def Pst (K : PySem.W.Frag) (ct : Ct) (H0 : Hp) {β α : Type} (R : RR β α) (W : WX) (S : Sh) (s : Stt) (σ : St) (H : Hp) (Q : β → Hp → Prop) : Ro α → Prop
  | .ok a s' => ∀ S' b H', Stp S s.M.length H S' s'.M.length H' → Rel K ct H0 S' s' σ H' → R H S' s' σ H' b a → Q b H'
  | .er x s' => ∀ S' H' dd, Stp S s.M.length H S' s'.M.length H' → Rel K ct H0 S' s' σ H' → XOk K S' s'.M.length H' x dd → W (.ref (ct x.cls)) dd σ H'
  | .no => False
def Jd (K : PySem.W.Frag) (ct : Ct) (H0 : Hp) {β α : Type} (R : RR β α) (W : WX) (t : St → Hp → (β → Hp → Prop) → Prop) (m : Mo α) : Prop :=
  ∀ S s σ H Q, Rel K ct H0 S s σ H → Pst K ct H0 R W S s σ H Q (m s) → t σ H Q
/-- a result that is told by an earlier heap, too -/
def Bck {β α : Type} (R : RR β α) : Prop := ∀ H1 H S s σ H' b a, (∀ x, H1 x = none → H x = none) → R H1 S s σ H' b a → R H S s σ H' b a
def RI (K : PySem.W.Frag) (ct : Ct) : RR V AI := fun H S s σ H' v a => ItOk K ct H S s σ H' v a
def RV (K : PySem.W.Frag) : RR V D := fun _ S s _ _ v d => Rp K S.G S.α s.M.length v d
def RVL (K : PySem.W.Frag) : RR (List V) (List D) := fun _ S s _ _ v d => RpL K S.G S.α s.M.length v d
def RB : RR Bool Bool := fun _ _ _ _ _ b a => b = a
def RO : RR (Option Int) (Option Int) := fun _ _ _ _ _ b a => b = a
theorem bI : Bck (RI K ct) := fun H1 H S s σ H' v a k h => by
  cases a with
  | val d => exact h
  | slot i => exact h
  | new c => obtain ⟨p, e, h1, h2⟩ := h; exact ⟨p, e, k _ h1, h2⟩
theorem bVL : Bck (RVL K) := fun _ _ _ _ _ _ _ _ _ h => h
theorem bB : Bck RB := fun _ _ _ _ _ _ _ _ _ h => h
theorem bO : Bck RO := fun _ _ _ _ _ _ _ _ _ h => h
variable {β α γ δ : Type} {R : RR β α} {R' : RR γ δ} {S S1 : Sh} {s s1 : Stt} {σ : St} {H H1 : Hp}
theorem Pst.from {Q : β → Hp → Prop} {r : Ro α} (b : Bck R) (h : Pst K ct H0 R W S s σ H Q r) (t : Stp S s.M.length H S1 s1.M.length H1) : Pst K ct H0 R W S1 s1 σ H1 Q r := by
  cases r with
  | ok a s' => exact fun S' b' H' st rel q => h S' b' H' (t.trans st) rel (b _ _ _ _ _ _ _ _ t.dom q)
  | er x s' => exact fun S' H' dd st rel q => h S' H' dd (t.trans st) rel q
  | no => exact h
theorem Pst.bind {Q : γ → Hp → Prop} {Q1 : β → Hp → Prop} {r : Ro α} {f : α → Mo δ} (b : Bck R') (h : Pst K ct H0 R' W S s σ H Q (r.bind f))
    (k : ∀ S1 s1 H1 x a, Stp S s.M.length H S1 s1.M.length H1 → Rel K ct H0 S1 s1 σ H1 → R H S1 s1 σ H1 x a → Pst K ct H0 R' W S1 s1 σ H1 Q (f a s1) → Q1 x H1) : Pst K ct H0 R W S s σ H Q1 r := by
  cases r with
  | ok a s' => exact fun S' x H' st rel q => k S' s' H' x a st rel q (Pst.from b h st)
  | er x s' => exact h
  | no => exact h
theorem ItOk.step {Hs : Hp} {v : V} {a : AI} (t : Stp S s.M.length H S1 s1.M.length H1) (h : ItOk K ct Hs S s σ H v a) : ItOk K ct Hs S1 s1 σ H1 v a := by
  cases a with
  | val d => exact Rp.step t h
  | slot i => exact h
  | new c =>
    obtain ⟨p, e, h1, h2, h3, h4, h5⟩ := h
    obtain ⟨o, ho⟩ := h5.some
    obtain ⟨k1, k2⟩ := t.fr p o ho h2
    refine ⟨p, e, h1, k2, ?_, h4, h5.mono t.g t.al t.le fun u hu => (t.fr p u hu h2).1⟩
    cases q : S1.G p with
    | none => rfl
    | some u =>
      rcases t.gn p u q with z | z | ⟨l, z⟩
      · rw [h3] at z; cases z
      · rw [ho] at z; cases z
      · rw [h2] at z; cases z
def Cn.aL : Cn → Option (List D)
  | .lst l => some l
  | _ => none
def Cn.aK : Cn → Option (List (Key × D))
  | .dK l => some l
  | _ => none
def Cn.aT : Cn → Option (List (List Key × D))
  | .dT l => some l
  | _ => none
def listOf (M : List Cn) : D → Option (List D)
  | .lst l => some l
  | .clst l => some l
  | .cid k => M[k]?.bind Cn.aL
  | _ => none
def tupOf : D → Option (List D)
  | .tup l => some l
  | .ctp l => some l
  | _ => none
def dictOf (M : List Cn) : D → Option (List (Key × D))
  | .dK l => some l
  | .cid k => M[k]?.bind Cn.aK
  | _ => none
def dictTOf (M : List Cn) : D → Option (List (List Key × D))
  | .dT l => some l
  | .cid k => M[k]?.bind Cn.aT
  | _ => none
def Ent.toD : Ent → D
  | .fz d => d
  | .ow c => c.toD
  | .xn _ => .non
def Ent.nox : Ent → Option Ent
  | .xn _ => none
  | e => some e
def entAt (s : Stt) (i : Nat) : Option Ent := ((s.env[i]?).getD none).bind Ent.nox
theorem nox_xn {o : Option Ent} {x : Exn} (h : o.bind Ent.nox = some (.xn x)) : False := by
  cases o with
  | none => cases h
  | some e => cases e <;> cases h
theorem entAt_xn {s : Stt} {i : Nat} {x : Exn} (h : entAt s i = some (.xn x)) : False := nox_xn h
theorem entAt_eq {s : Stt} {i : Nat} {e : Ent} (h : entAt s i = some e) : s.env[i]? = some (some e) := by
  unfold entAt at h
  cases q : s.env[i]? with
  | none => rw [q] at h; cases h
  | some z =>
    rw [q] at h
    cases z with
    | none => cases h
    | some z => cases z <;> cases h <;> rfl
/-- an item as data, what it has now -/
def look (s : Stt) : AI → Option D
  | .val d => some d
  | .new c => some c.toD
  | .slot i => (entAt s i).map Ent.toD
def viewL (s : Stt) (a : AI) : Option (List D) := (look s a).bind (listOf s.M)
def viewT (s : Stt) (a : AI) : Option (List D) := (look s a).bind tupOf
def viewD (s : Stt) (a : AI) : Option (List (Key × D)) := (look s a).bind (dictOf s.M)
def viewDT (s : Stt) (a : AI) : Option (List (List Key × D)) := (look s a).bind (dictTOf s.M)
/-- data as the whole heap shows it -/
theorem CnOk.rp {p : Addr} {c : Cn} (r : Rel K ct H0 S s σ H) (hc : c.isC = true) (h : CnOk K ct S s.M.length H p c) : Rp K (U ct.lk H) S.α s.M.length (.ref p) c.toD := by
  cases c with
  | lst l => obtain ⟨vs, h1, h2⟩ := h; exact .lst (uL h1) (h2.mono r.sub (fun _ _ => rfl) (Nat.le_refl _))
  | dK l => obtain ⟨vs, h1, h3, h2⟩ := h; exact .dK (uK h1) h3 (h2.mono r.sub (fun _ _ => rfl) (Nat.le_refl _))
  | dT l => obtain ⟨vs, h1, h3, h2⟩ := h; exact .dT (uT h1) h3 (h2.mono r.sub (fun _ _ => rfl) (Nat.le_refl _))
  | obj c fs => cases hc
theorem look_ok {Hs : Hp} {v : V} {a : AI} {d : D} (r : Rel K ct H0 S s σ H) (i : ItOk K ct Hs S s σ H v a) (e : look s a = some d) : Rp K (U ct.lk H) S.α s.M.length v d := by
  cases a with
  | val d' => cases e; exact Rp.mono r.sub (fun _ _ => rfl) (Nat.le_refl _) i
  | new c =>
    cases e
    obtain ⟨p, rfl, _, _, _, hc, h5⟩ := i
    exact h5.rp r hc
  | slot j =>
    obtain ⟨en, q0, rfl⟩ := Option.map_eq_some_iff.mp e
    have q := entAt_eq q0
    have hh := r.slot j en q
    have hi : σ[j]? = some (some v) := i
    cases en with
    | fz d' =>
      obtain ⟨v', h1, h2⟩ := hh
      rw [hi] at h1; cases h1
      exact h2.mono r.sub (fun _ _ => rfl) (Nat.le_refl _)
    | xn x => exact (entAt_xn q0).elim
    | ow c =>
      obtain ⟨p, h1, _, _, hc, h5⟩ := hh
      rw [hi] at h1; cases h1
      exact h5.rp r hc
/-- the parts of what an item shows are frozen -/
theorem viewL_ok {Hs : Hp} {v : V} {a : AI} {l : List D} (r : Rel K ct H0 S s σ H) (i : ItOk K ct Hs S s σ H v a) (e : viewL s a = some l) : ∃ p vs, v = .ref p ∧ SqL K H p vs ∧ RpL K S.G S.α s.M.length vs l := by
  have cidc : ∀ {k : Nat} {u : V}, Rp K S.G S.α s.M.length u (.cid k) → listOf s.M (.cid k) = some l → ∃ p vs, u = .ref p ∧ SqL K H p vs ∧ RpL K S.G S.α s.M.length vs l := fun {k u} h e => by
    cases h
    obtain ⟨c, q, e1⟩ := Option.bind_eq_some_iff.mp (show s.M[k]?.bind Cn.aL = some l from e)
    cases c with
    | lst l' =>
      cases e1
      obtain ⟨vs, h1, h2⟩ := (r.ids k _ q).2
      exact ⟨_, vs, rfl, .of h1, h2⟩
    | _ => cases e1
  have frz : ∀ {u : V} {d : D}, Rp K S.G S.α s.M.length u d → listOf s.M d = some l → ∃ p vs, u = .ref p ∧ SqL K H p vs ∧ RpL K S.G S.α s.M.length vs l := fun {u d} h e => by
    cases d with
    | lst l' => cases e; cases h with | lst h1 h2 => exact ⟨_, _, rfl, (.of (uL' (r.sub _ _ h1))), h2⟩
    | clst l' => cases e; cases h with | clst h1 h2 => exact ⟨_, _, rfl, uSqL (r.sub.seq h1), h2⟩
    | cid k => exact cidc h e
    | _ => cases e
  have own : ∀ {p : Addr} {c : Cn}, CnOk K ct S s.M.length H p c → c.isC = true → listOf s.M c.toD = some l → ∃ q vs, V.ref p = .ref q ∧ SqL K H q vs ∧ RpL K S.G S.α s.M.length vs l := fun {p c} h hc e => by
    cases c with
    | lst l' => cases e; obtain ⟨vs, h1, h2⟩ := h; exact ⟨p, vs, rfl, .of h1, h2⟩
    | dK l' => cases e
    | dT l' => cases e
    | obj _ _ => cases e
  unfold viewL at e
  cases a with
  | val d => exact frz i e
  | new c =>
    obtain ⟨p, rfl, _, _, _, hc, h5⟩ := i
    exact own h5 hc e
  | slot j =>
    obtain ⟨d, q0, e⟩ := Option.bind_eq_some_iff.mp e
    obtain ⟨en, q1, rfl⟩ := Option.map_eq_some_iff.mp q0
    have q := entAt_eq q1
    have hi : σ[j]? = some (some v) := i
    have hh := r.slot j en q
    cases en with
    | fz d =>
      obtain ⟨v', h1, h2⟩ := hh
      rw [hi] at h1; cases h1
      exact frz h2 e
    | xn x => exact (entAt_xn q1).elim
    | ow c =>
      obtain ⟨p, h1, _, _, hc, h5⟩ := hh
      rw [hi] at h1; cases h1
      exact own h5 hc e
theorem viewT_ok {Hs : Hp} {v : V} {a : AI} {l : List D} (r : Rel K ct H0 S s σ H) (i : ItOk K ct Hs S s σ H v a) (e : viewT s a = some l) : ∃ p vs, v = .ref p ∧ SqT K H p vs ∧ RpL K S.G S.α s.M.length vs l := by
  have frz : ∀ {u : V} {d : D}, Rp K S.G S.α s.M.length u d → tupOf d = some l → ∃ p vs, u = .ref p ∧ SqT K H p vs ∧ RpL K S.G S.α s.M.length vs l := fun {u d} h e => by
    cases d with
    | tup l' => cases e; cases h with | tup h1 h2 => exact ⟨_, _, rfl, .of (uP' (r.sub _ _ h1)), h2⟩
    | ctp l' => cases e; cases h with | ctp h1 h2 => exact ⟨_, _, rfl, uSqT (st_mono r.sub h1), h2⟩
    | _ => cases e
  unfold viewT at e
  cases a with
  | val d => exact frz i e
  | new c => cases c <;> cases e
  | slot j =>
    obtain ⟨d, q0, e⟩ := Option.bind_eq_some_iff.mp e
    obtain ⟨en, q1, rfl⟩ := Option.map_eq_some_iff.mp q0
    have q := entAt_eq q1
    have hi : σ[j]? = some (some v) := i
    have hh := r.slot j en q
    cases en with
    | fz d =>
      obtain ⟨v', h1, h2⟩ := hh
      rw [hi] at h1; cases h1
      exact frz h2 e
    | xn x => exact (entAt_xn q1).elim
    | ow c => cases c <;> cases e
def Sh.frzL (S : Sh) (p : Addr) (o : HO) : Sh := ⟨upd S.G p o, S.α, fun a => if a = p then none else S.lab a⟩
def toV : AI → Mo D := fun a s => match a with
  | .val d => .ok d s
  | .new c => .ok c.toD s
  | .slot i => match entAt s i with
    | some (.ow c) => .ok c.toD ⟨s.env.set i (some (.fz c.toD)), s.M⟩
    | some (.fz d) => .ok d s
    | _ => .no
theorem rp_frz {p : Addr} {c : Cn} {n : Nat} {Hx : Hp} (hg : S.G p = none) (hc : c.isC = true) (h : CnOk K ct S n Hx p c) : ∃ o, U ct.lk Hx p = some o ∧ Rp K (upd S.G p o) S.α n (.ref p) c.toD := by
  have sg : ∀ o, Same S.G (upd S.G p o) := fun o a u e => by rw [upd_ne (ne_of_none e hg)]; exact e
  cases c with
  | lst l => obtain ⟨vs, h1, h2⟩ := h; exact ⟨_, uL h1, .lst upd_same (h2.mono (sg _) (fun _ _ => rfl) (Nat.le_refl _))⟩
  | dK l => obtain ⟨vs, h1, h3, h2⟩ := h; exact ⟨_, uK h1, .dK upd_same h3 (h2.mono (sg _) (fun _ _ => rfl) (Nat.le_refl _))⟩
  | dT l => obtain ⟨vs, h1, h3, h2⟩ := h; exact ⟨_, uT h1, .dT upd_same h3 (h2.mono (sg _) (fun _ _ => rfl) (Nat.le_refl _))⟩
  | obj c fs => cases hc
theorem Stp.frzNew {S' : Sh} {n n' : Nat} {H' : Hp} {p : Addr} {o : HO} (t : Stp S n H S' n' H') (hp : H p = none) (hg : S'.G p = none) : Stp S n H (S'.frz p o) n' H' where
  g := fun a u e => by show upd S'.G p o a = _; rw [upd_ne (ne_of_none (t.g a u e) hg)]; exact t.g a u e
  le := t.le
  al := t.al
  fr := t.fr
  gn := fun a u e => by
    have e1 : upd S'.G p o a = some u := e
    by_cases q : a = p
    · subst q; exact .inr (.inl hp)
    · rw [upd_ne q] at e1; exact t.gn a u e1
  dom := t.dom
theorem frz_slot {i : Nat} {c : Cn} (r : Rel K ct H0 S s σ H) (e : s.env[i]? = some (some (.ow c))) : ∃ S' v, σ[i]? = some (some v) ∧ Stp S s.M.length H S' s.M.length H ∧ Rel K ct H0 S' ⟨s.env.set i (some (.fz c.toD)), s.M⟩ σ H ∧ Rp K S'.G S'.α s.M.length v c.toD := by
  obtain ⟨p, h1, h2, h3, h4, h5⟩ := r.slot i _ e
  have hg := (r.lg p _ h3).1
  obtain ⟨o, ho, hr⟩ := rp_frz hg h4 h5
  have sg : Same S.G (upd S.G p o) := fun a u e => by rw [upd_ne (ne_of_none e hg)]; exact e
  have cn : ∀ {a : Addr} {c : Cn}, CnOk K ct S s.M.length H a c → CnOk K ct (S.frzL p o) s.M.length H a c := fun {a c} h => h.mono sg (fun _ _ => rfl) (Nat.le_refl _) (fun _ e => e)
  have labne : ∀ {a : Addr} {l : Lab}, S.lab a = some l → l ≠ .slot i → (S.frzL p o).lab a = some l := fun {a l} h ne => by
    show (if a = p then none else S.lab a) = _
    rw [if_neg (fun z => by subst z; rw [h3] at h; cases h; exact ne rfl)]
    exact h
  refine ⟨S.frzL p o, .ref p, h1, ⟨sg, Nat.le_refl _, fun _ _ => rfl, fun a u h l => ⟨h, ?_⟩, fun a u q => ?_, fun _ h => h⟩, ⟨fun a u q => ?_, fun a l q => ?_, r.dom, ?_, fun j en q => ?_, fun k c' q => ?_⟩, hr⟩
  · show (if a = p then none else S.lab a) = none
    split
    · rfl
    · exact l
  · have q1 : upd S.G p o a = some u := q
    by_cases z : a = p
    · subst z; exact .inr (.inr ⟨_, h3⟩)
    · rw [upd_ne z] at q1; exact .inl q1
  · have q1 : upd S.G p o a = some u := q
    by_cases z : a = p
    · subst z; rw [upd_same] at q1; cases q1; exact ho
    · rw [upd_ne z] at q1; exact r.sub a u q1
  · have q1 : (if a = p then none else S.lab a) = some l := q
    by_cases z : a = p
    · rw [if_pos z] at q1; cases q1
    · rw [if_neg z] at q1
      obtain ⟨k1, k2⟩ := r.lg a l q1
      refine ⟨?_, k2⟩
      show upd S.G p o a = none
      rw [upd_ne z]; exact k1
  · show σ.length = (s.env.set i _).length
    rw [List.length_set]; exact r.len
  · have q1 : (s.env.set i (some (.fz c.toD)))[j]? = some (some en) := q
    by_cases z : i = j
    · subst z
      have hlt : i < s.env.length := (List.getElem?_eq_some_iff.mp e).1
      rw [List.getElem?_set_self hlt] at q1
      cases q1
      exact ⟨_, h1, hr⟩
    · rw [List.getElem?_set_ne z] at q1
      have hh := r.slot j en q1
      cases en with
      | fz d => obtain ⟨v, k1, k2⟩ := hh; exact ⟨v, k1, k2.mono sg (fun _ _ => rfl) (Nat.le_refl _)⟩
      | xn x => exact xn_mono sg (fun _ _ => rfl) (Nat.le_refl _) rfl hh
      | ow c' =>
        obtain ⟨a, k1, k2, k3, k4, k5⟩ := hh
        exact ⟨a, k1, k2, labne k3 (fun w => by cases w; exact z rfl), k4, cn k5⟩
  · obtain ⟨k1, k2⟩ := r.ids k c' q
    exact ⟨labne k1 (fun w => by cases w), cn k2⟩
abbrev Ei (K : PySem.W.Frag) (ct : Ct) (H0 : Hp) (W : WX) (t : TE) (m : Mo AI) : Prop := Jd K ct H0 (RI K ct) W t m
abbrev Ev (K : PySem.W.Frag) (ct : Ct) (H0 : Hp) (W : WX) (t : TE) (m : Mo D) : Prop := Jd K ct H0 (RV K) W t m
abbrev EvL (K : PySem.W.Frag) (ct : Ct) (H0 : Hp) (W : WX) (t : TA) (m : Mo (List D)) : Prop := Jd K ct H0 (RVL K) W t m
abbrev Et (K : PySem.W.Frag) (ct : Ct) (H0 : Hp) (W : WX) (t : TT) (m : Mo Bool) : Prop := Jd K ct H0 RB W t m
abbrev Eo (K : PySem.W.Frag) (ct : Ct) (H0 : Hp) (W : WX) (t : TO) (m : Mo (Option Int)) : Prop := Jd K ct H0 RO W t m
def mV (m : Mo AI) : Mo D := fun s => (m s).bind toV
theorem ev_of {t : TE} {m : Mo AI} (h : Ei K ct H0 W t m) : Ev K ct H0 W t (mV m) := fun S s σ H Q rel p => h S s σ H Q rel (by
  unfold mV at p
  cases q : m s with
  | no => rw [q] at p; exact p
  | er x s' => rw [q] at p; exact p
  | ok a s' =>
    rw [q] at p
    have p : Pst K ct H0 (RV K) W S s σ H Q (toV a s') := p
    intro S' v H' st rel' it
    cases a with
    | val d => exact p S' v H' st rel' it
    | new c =>
      obtain ⟨pp, rfl, h1, h2, h3, h4, h5⟩ := it
      obtain ⟨o, ho, hr⟩ := rp_frz h3 h4 h5
      exact p (S'.frz pp o) _ H' (st.frzNew h1 h3) (rel'.frz ho h2 h3) hr
    | slot i =>
      have hi : σ[i]? = some (some v) := it
      have p : Pst K ct H0 (RV K) W S s σ H Q (match entAt s' i with | some (.ow c) => .ok c.toD ⟨s'.env.set i (some (.fz c.toD)), s'.M⟩ | some (.fz d) => .ok d s' | _ => .no) := p
      cases qe : entAt s' i with
      | none => rw [qe] at p; exact False.elim p
      | some en =>
        rw [qe] at p
        cases en with
        | fz d =>
          obtain ⟨v', k1, k2⟩ := rel'.slot i _ (entAt_eq qe)
          rw [hi] at k1; cases k1
          exact p S' v H' st rel' k2
        | xn x => exact False.elim p
        | ow c =>
          obtain ⟨S2, v', k1, st2, rel2, k2⟩ := frz_slot rel' (entAt_eq qe)
          rw [hi] at k1; cases k1
          exact p S2 v H' (st.trans st2) rel2 k2)
def mI (m : Mo D) : Mo AI := fun s => (m s).bind fun d s' => .ok (.val d) s'
def mName (i : Nat) : Mo AI := fun s => match entAt s i with
  | some (.fz d) => .ok (.val d) s
  | some (.ow _) => .ok (.slot i) s
  | _ => .no
theorem ei_var {i : Nat} : Ei K ct H0 W (tVar i) (mName i) := fun S s σ H Q rel p => by
  unfold mName at p
  cases q : entAt s i with
  | none => rw [q] at p; exact False.elim p
  | some en =>
    rw [q] at p
    cases en with
    | fz d =>
      obtain ⟨v, h1, h2⟩ := rel.slot i _ (entAt_eq q)
      exact ⟨v, h1, p S v H .refl rel h2⟩
    | xn x => exact False.elim p
    | ow c =>
      obtain ⟨a, h1, _⟩ := rel.slot i _ (entAt_eq q)
      exact ⟨_, h1, p S _ H .refl rel h1⟩
def mC (d : D) : Mo AI := fun s => .ok (.val d) s
/-- what stands for data whatever the heap -/
def CR (K : PySem.W.Frag) (v : V) (d : D) : Prop := ∀ G α n, Rp K G α n v d
theorem ei_c {v : V} {d : D} (h : CR K v d) : Ei K ct H0 W (tC v) (mC d) := fun S s σ H Q rel p => p S v H .refl rel (h _ _ _)
theorem cr_int {i : Int} : CR K (.int i) (.int i) := fun _ _ _ => .int i
theorem cr_bl {b : Bool} : CR K (.bl b) (.bl b) := fun _ _ _ => .bl b
theorem cr_str {x : Str} : CR K (.str x) (.str x) := fun _ _ _ => .str x
theorem cr_non : CR K .non .non := fun _ _ _ => .non
/-- an operator of two items -/
def J2 (K : PySem.W.Frag) (ct : Ct) (H0 : Hp) (r : R2) (f : Stt → AI → AI → Ro AI) : Prop := ∀ W S s σ H Hs Hs' x y a b Q, Rel K ct H0 S s σ H → ItOk K ct Hs S s σ H x a → ItOk K ct Hs' S s σ H y b → Pst K ct H0 (RI K ct) W S s σ H Q (f s a b) → r x y H Q
def J1 (K : PySem.W.Frag) (ct : Ct) (H0 : Hp) (r : V → Hp → VK → Prop) (f : Stt → AI → Ro AI) : Prop := ∀ W S s σ H Hs x a Q, Rel K ct H0 S s σ H → ItOk K ct Hs S s σ H x a → Pst K ct H0 (RI K ct) W S s σ H Q (f s a) → r x H Q
def mOp (f : Stt → AI → AI → Ro AI) (m1 m2 : Mo AI) : Mo AI := fun s => (m1 s).bind fun a s1 => (m2 s1).bind fun b s2 => f s2 a b
def mUn (f : Stt → AI → Ro AI) (m1 : Mo AI) : Mo AI := fun s => (m1 s).bind fun a s1 => f s1 a
theorem ei_op {r : R2} {f : Stt → AI → AI → Ro AI} {ta tb : TE} {m1 m2 : Mo AI} (ho : J2 K ct H0 r f) (h1 : Ei K ct H0 W ta m1) (h2 : Ei K ct H0 W tb m2) : Ei K ct H0 W (tOp r ta tb) (mOp f m1 m2) := fun S s σ H Q rel p =>
  h1 S s σ H _ rel (Pst.bind bI p fun S1 s1 H1 x a st1 rel1 i1 p1 => h2 S1 s1 σ H1 _ rel1 (Pst.bind bI p1 fun S2 s2 H2 y b st2 rel2 i2 p2 => ho W S2 s2 σ H2 _ _ x y a b Q rel2 (i1.step st2) i2 p2))
theorem ei_un {r : V → Hp → VK → Prop} {f : Stt → AI → Ro AI} {ta : TE} {m1 : Mo AI} (ho : J1 K ct H0 r f) (h1 : Ei K ct H0 W ta m1) : Ei K ct H0 W (tUn r ta) (mUn f m1) := fun S s σ H Q rel p =>
  h1 S s σ H _ rel (Pst.bind bI p fun S1 s1 H1 x a st1 rel1 i1 p1 => ho W S1 s1 σ H1 _ x a Q rel1 i1 p1)
end
end Y
namespace Y
open PySem L2 Z
section
variable {K : PySem.W.Frag} {ct : Ct} {H0 : Hp} {W : WX} {S : Sh} {s : Stt} {σ : St} {H : Hp} {Q : VK}
theorem Pst.val {d : D} {v : V} (p : Pst K ct H0 (RI K ct) W S s σ H Q (.ok (.val d) s)) (rel : Rel K ct H0 S s σ H) (h : Rp K S.G S.α s.M.length v d) : Q v H := p S v H .refl rel h
theorem Pst.newC {c : Cn} {q : Addr} {o : HO} (p : Pst K ct H0 (RI K ct) W S s σ H Q (.ok (.new c) s)) (rel : Rel K ct H0 S s σ H) (hp : H q = none) (hc : c.isC = true) (h : CnOk K ct S s.M.length (upd H q o) q c) : Q (.ref q) (upd H q o) :=
  p S _ _ (Stp.new rel hp) (rel.new hp) ⟨q, rfl, hp, rel.labN hp, rel.gN hp, hc, h⟩
theorem Pst.newL {l : List D} {vs : List V} {q : Addr} (p : Pst K ct H0 (RI K ct) W S s σ H Q (.ok (.new (.lst l)) s)) (rel : Rel K ct H0 S s σ H) (hp : H q = none) (h : RpL K S.G S.α s.M.length vs l) : Q (.ref q) (upd H q (.lst vs)) :=
  p.newC rel hp rfl ⟨vs, upd_same, h⟩
theorem Pst.newT {l : List D} {vs : List V} {q : Addr} (p : Pst K ct H0 (RI K ct) W S s σ H Q (.ok (.val (.tup l)) s)) (rel : Rel K ct H0 S s σ H) (hp : H q = none) (h : RpL K S.G S.α s.M.length vs l) : Q (.ref q) (upd H q (.tup vs)) := by
  have hg := rel.gN hp
  refine p (S.frz q (.tup vs)) _ _ ((Stp.new rel hp).frzNew hp hg) ((rel.new hp).frz (uP upd_same) (rel.labN hp) hg) ?_
  exact .tup upd_same (h.mono (fun a u e => by show upd S.G q _ a = _; rw [upd_ne (ne_of_none e hg)]; exact e) (fun _ _ => rfl) (Nat.le_refl _))
end
def fI0 (g : Int → Int → D) : Stt → AI → AI → Ro AI := fun s a b => match a, b with
  | .val (.int i), .val (.int j) => .ok (.val (g i j)) s
  | _, _ => .no
open Classical in
noncomputable def fI (C : Int → Int → Prop) (g : Int → Int → D) : Stt → AI → AI → Ro AI := fun s a b => match a, b with
  | .val (.int i), .val (.int j) => if C i j then .ok (.val (g i j)) s else .no
  | _, _ => .no
def fAdd : Stt → AI → AI → Ro AI := fun s a b => match a, b with
  | .val (.int i), .val (.int j) => .ok (.val (.int (i + j))) s
  | .val (.str x), .val (.str y) => if x.length + y.length ≤ sizeLine then .ok (.val (.str (x ++ y))) s else .no
  | a, b => match viewL s a, viewL s b with
    | some l, some l' => if l.length + l'.length ≤ sizeLine then .ok (.new (.lst (l ++ l'))) s else .no
    | _, _ => .no
/-- a list that is tracked -/
def listX (M : List Cn) : D → Option (List D)
  | .lst l => some l
  | .cid k => M[k]?.bind Cn.aL
  | _ => none
def viewX (s : Stt) (a : AI) : Option (List D) := (look s a).bind (listX s.M)
open Classical in
noncomputable def fMul : Stt → AI → AI → Ro AI := fun s a b => match a, b with
  | .val (.int i), .val (.int j) => if CMul i j then .ok (.val (.int (i * j))) s else .no
  | a, .val (.int j) => match viewX s a with
    | some l => if -(2 ^ 63) ≤ j ∧ j < 2 ^ 63 ∧ l.length * j.toNat ≤ sizeLine then .ok (.new (.lst (List.replicate j.toNat l).flatten)) s else .no
    | none => .no
  | _, _ => .no
mutual
def D.py : D → Option PyData
  | .non => some .none
  | .bl b => some (.bool b)
  | .int i => some (.int i)
  | .str x => some (.str x)
  | .tup l => (D.pyL l).map .tuple
  | .ctp l => (D.pyL l).map .tuple
  | .lst l => (D.pyL l).map .list
  | .clst l => (D.pyL l).map .list
  | _ => none
def D.pyL : List D → Option (List PyData)
  | [] => some []
  | d :: l => d.py.bind fun x => (D.pyL l).map (x :: ·)
end
def Cn.dat : Cn → Option D
  | .obj _ _ => none
  | c => some c.toD
def deref (M : List Cn) : D → Option D
  | .cid k => M[k]?.bind Cn.dat
  | d => some d
def pyOf (s : Stt) (a : AI) : Option PyData := ((look s a).bind (deref s.M)).bind D.py
def eqOf (s : Stt) (a b : AI) : Option Bool := (pyOf s a).bind fun x => (pyOf s b).bind fun y => if SeqAt.shaped x && SeqAt.shaped y then some (x.eqv y) else none
def fEq : Stt → AI → AI → Ro AI := fun s a b => match eqOf s a b with
  | some k => .ok (.val (.bl k)) s
  | none => .no
def fNe : Stt → AI → AI → Ro AI := fun s a b => match eqOf s a b with
  | some k => .ok (.val (.bl (!k))) s
  | none => .no
def D.isN : D → Bool
  | .non => true
  | _ => false
def isOf (s : Stt) (a b : AI) : Option Bool := match a, b with
  | .val (.bl x), .val (.bl y) => some (x == y)
  | a, .val .non => (look s a).map D.isN
  | _, _ => none
def fIs : Stt → AI → AI → Ro AI := fun s a b => match isOf s a b with
  | some k => .ok (.val (.bl k)) s
  | none => .no
def fIsn : Stt → AI → AI → Ro AI := fun s a b => match isOf s a b with
  | some k => .ok (.val (.bl (!k))) s
  | none => .no
def fIx : Stt → AI → AI → Ro AI := fun s a b => match b with
  | .val (.int i) => match a with
    | .val (.str z) => if z.length ≤ sizeLine then (match atI z.cps.toList i with
      | some c => .ok (.val (.str ⟨#[c]⟩)) s
      | none => .no) else .no
    | a => match viewL s a with
      | some l => (match atI l i with
        | some d => .ok (.val d) s
        | none => .no)
      | none => (match viewT s a with
        | some l => (match atI l i with
          | some d => .ok (.val d) s
          | none => .no)
        | none => .no)
  | _ => .no
section
variable {K : PySem.W.Frag} {ct : Ct} {H0 : Hp} {G : Hp} {α : Nat → Addr} {n : Nat}
mutual
theorem rp_dp : ∀ {d : D} {v : V} {x : PyData}, Rp K G α n v d → d.py = some x → Dp K G v x
  | .non, _, _, .non, e => by cases e; exact .non
  | .bl b, _, _, .bl _, e => by cases e; exact .bl b
  | .int i, _, _, .int _, e => by cases e; exact .int i
  | .str y, _, _, .str _, e => by cases e; exact .str y
  | .tup l, _, _, .tup h r, e => by
    obtain ⟨xs, q, rfl⟩ := Option.map_eq_some_iff.mp (show (D.pyL l).map PyData.tuple = some _ from e)
    exact .tup (.of h) (rpL_dp r q)
  | .ctp l, _, _, .ctp h r, e => by
    obtain ⟨xs, q, rfl⟩ := Option.map_eq_some_iff.mp (show (D.pyL l).map PyData.tuple = some _ from e)
    exact .tup h (rpL_dp r q)
  | .lst l, _, _, .lst h r, e => by
    obtain ⟨xs, q, rfl⟩ := Option.map_eq_some_iff.mp (show (D.pyL l).map PyData.list = some _ from e)
    exact .lst (.of h) (rpL_dp r q)
  | .clst l, _, _, .clst h r, e => by
    obtain ⟨xs, q, rfl⟩ := Option.map_eq_some_iff.mp (show (D.pyL l).map PyData.list = some _ from e)
    exact .lst h (rpL_dp r q)
  | .dK _, _, _, _, e => by cases e
  | .dT _, _, _, _, e => by cases e
  | .cid _, _, _, _, e => by cases e
  | .ty _, _, _, _, e => by cases e
theorem rpL_dp : ∀ {l : List D} {vs : List V} {xs : List PyData}, RpL K G α n vs l → D.pyL l = some xs → DpAll K G vs xs
  | [], _, _, .nil, e => by cases e; exact .nil
  | d :: l, _, _, .cons h r, e => by
    obtain ⟨x, q, e1⟩ := Option.bind_eq_some_iff.mp (show (d.py.bind fun x => (D.pyL l).map (x :: ·)) = some _ from e)
    obtain ⟨ys, q2, rfl⟩ := Option.map_eq_some_iff.mp e1
    exact .cons (rp_dp h q) (rpL_dp r q2)
end
mutual
theorem uDp {b : Option Addr} {H : Hp} : ∀ {v : V} {x : PyData}, Dp K (U b H) v x → Dp K H v x
  | _, _, .non => .non
  | _, _, .bl b => .bl b
  | _, _, .int i => .int i
  | _, _, .str y => .str y
  | _, _, .lst h r => .lst (uSqL h) (uDpL r)
  | _, _, .tup h r => .tup (uSqT h) (uDpL r)
theorem uDpL {b : Option Addr} {H : Hp} : ∀ {vs : List V} {xs : List PyData}, DpAll K (U b H) vs xs → DpAll K H vs xs
  | _, _, .nil => .nil
  | _, _, .cons h r => .cons (uDp h) (uDpL r)
end
variable {W : WX} {S : Sh} {s : Stt} {σ : St} {H : Hp} {Q : VK}
theorem deref_ok {v : V} {d e : D} (rel : Rel K ct H0 S s σ H) (h : Rp K (U ct.lk H) S.α s.M.length v d) (q : deref s.M d = some e) : Rp K (U ct.lk H) S.α s.M.length v e := by
  cases d with
  | cid k =>
    obtain ⟨c, hc, e1⟩ := Option.bind_eq_some_iff.mp (show s.M[k]?.bind Cn.dat = some e from q)
    cases h
    have hh := (rel.ids k c hc).2
    cases c with
    | obj _ _ => cases e1
    | lst l => cases e1; exact hh.rp rel rfl
    | dK l => cases e1; exact hh.rp rel rfl
    | dT l => cases e1; exact hh.rp rel rfl
  | _ => cases q; exact h
theorem pyOf_ok {Hs : Hp} {v : V} {a : AI} {x : PyData} (rel : Rel K ct H0 S s σ H) (i : ItOk K ct Hs S s σ H v a) (e : pyOf s a = some x) : Dp K H v x := by
  obtain ⟨d, e1, e2⟩ := Option.bind_eq_some_iff.mp e
  obtain ⟨d0, e0, e1⟩ := Option.bind_eq_some_iff.mp e1
  exact uDp (rp_dp (deref_ok rel (look_ok rel i e0) e1) e2)
theorem eqOf_ok {Hs Hs' : Hp} {v w : V} {a b : AI} {k : Bool} (rel : Rel K ct H0 S s σ H) (i : ItOk K ct Hs S s σ H v a) (j : ItOk K ct Hs' S s σ H w b) (e : eqOf s a b = some k) :
    ∃ x y, Dp K H v x ∧ Dp K H w y ∧ SeqAt.shaped x = true ∧ SeqAt.shaped y = true ∧ x.eqv y = k := by
  obtain ⟨x, e1, e⟩ := Option.bind_eq_some_iff.mp e
  obtain ⟨y, e2, e⟩ := Option.bind_eq_some_iff.mp e
  split at e
  · rename_i h
    rw [Bool.and_eq_true] at h
    cases e
    exact ⟨x, y, pyOf_ok rel i e1, pyOf_ok rel j e2, h.1, h.2, rfl⟩
  · cases e
theorem viewX_ok {Hs : Hp} {v : V} {a : AI} {l : List D} (r : Rel K ct H0 S s σ H) (i : ItOk K ct Hs S s σ H v a) (e : viewX s a = some l) : ∃ p vs, v = .ref p ∧ H p = some (.lst vs) ∧ RpL K S.G S.α s.M.length vs l := by
  have cidc : ∀ {k : Nat} {u : V}, Rp K S.G S.α s.M.length u (.cid k) → listX s.M (.cid k) = some l → ∃ p vs, u = .ref p ∧ H p = some (.lst vs) ∧ RpL K S.G S.α s.M.length vs l := fun {k u} h e => by
    cases h
    obtain ⟨c, q, e1⟩ := Option.bind_eq_some_iff.mp (show s.M[k]?.bind Cn.aL = some l from e)
    cases c with
    | lst l' =>
      cases e1
      obtain ⟨vs, h1, h2⟩ := (r.ids k _ q).2
      exact ⟨_, vs, rfl, h1, h2⟩
    | _ => cases e1
  have frz : ∀ {u : V} {d : D}, Rp K S.G S.α s.M.length u d → listX s.M d = some l → ∃ p vs, u = .ref p ∧ H p = some (.lst vs) ∧ RpL K S.G S.α s.M.length vs l := fun {u d} h e => by
    cases d with
    | lst l' => cases e; cases h with | lst h1 h2 => exact ⟨_, _, rfl, uL' (r.sub _ _ h1), h2⟩
    | cid k => exact cidc h e
    | _ => cases e
  have own : ∀ {p : Addr} {c : Cn}, CnOk K ct S s.M.length H p c → listX s.M c.toD = some l → ∃ q vs, V.ref p = .ref q ∧ H q = some (.lst vs) ∧ RpL K S.G S.α s.M.length vs l := fun {p c} h e => by
    cases c with
    | lst l' => cases e; obtain ⟨vs, h1, h2⟩ := h; exact ⟨p, vs, rfl, h1, h2⟩
    | dK l' => cases e
    | dT l' => cases e
    | obj _ _ => cases e
  unfold viewX at e
  cases a with
  | val d => exact frz i e
  | new c =>
    obtain ⟨p, rfl, _, _, _, hc, h5⟩ := i
    exact own h5 e
  | slot j =>
    obtain ⟨d, q0, e⟩ := Option.bind_eq_some_iff.mp e
    obtain ⟨en, q1, rfl⟩ := Option.map_eq_some_iff.mp q0
    have q := entAt_eq q1
    have hi : σ[j]? = some (some v) := i
    have hh := r.slot j en q
    cases en with
    | fz d =>
      obtain ⟨v', h1, h2⟩ := hh
      rw [hi] at h1; cases h1
      exact frz h2 e
    | xn x => exact (entAt_xn q1).elim
    | ow c =>
      obtain ⟨p, h1, _, _, hc, h5⟩ := hh
      rw [hi] at h1; cases h1
      exact own h5 e
theorem rp_int {v : V} {i : Int} (h : Rp K G α n v (.int i)) : v = .int i := by cases h; rfl
theorem rp_str {v : V} {x : Str} (h : Rp K G α n v (.str x)) : v = .str x := by cases h; rfl
theorem rp_bl {v : V} {x : Bool} (h : Rp K G α n v (.bl x)) : v = .bl x := by cases h; rfl
theorem j_I0 {gV : Int → Int → V} {g : Int → Int → D} (hg : ∀ i j, CR K (gV i j) (g i j)) : J2 K ct H0 (rI0 gV) (fI0 g) := fun W S s σ H Hs Hs' x y a b Q rel ia ib p => by
  unfold fI0 at p
  split at p
  · rename_i i j
    cases rp_int ia; cases rp_int ib
    exact ⟨i, j, rfl, rfl, p.val rel (hg _ _ _ _ _)⟩
  · exact False.elim p
theorem j_I {C : Int → Int → Prop} {gV : Int → Int → V} {g : Int → Int → D} (hg : ∀ i j, CR K (gV i j) (g i j)) : J2 K ct H0 (rI C gV) (fI C g) := fun W S s σ H Hs Hs' x y a b Q rel ia ib p => by
  unfold fI at p
  split at p
  · rename_i i j
    cases rp_int ia; cases rp_int ib
    split at p
    · rename_i hc
      exact ⟨i, j, rfl, rfl, hc, p.val rel (hg _ _ _ _ _)⟩
    · exact False.elim p
  · exact False.elim p
theorem j_add : J2 K ct H0 (rAddZ K) fAdd := fun W S s σ H Hs Hs' x y a b Q rel ia ib p => by
  unfold fAdd at p
  split at p
  · rename_i i j
    cases rp_int ia; cases rp_int ib
    exact .inl (.inl ⟨i, j, rfl, rfl, p.val rel (.int _)⟩)
  · rename_i i j
    cases rp_str ia; cases rp_str ib
    split at p
    · rename_i hc
      exact .inl (.inr ⟨i, j, rfl, rfl, hc, p.val rel (.str _)⟩)
    · exact False.elim p
  · split at p
    · rename_i l l' e1 e2
      split at p
      · rename_i hc
        obtain ⟨p1, vs, rfl, h1, r1⟩ := viewL_ok rel ia e1
        obtain ⟨p2, us, rfl, h2, r2⟩ := viewL_ok rel ib e2
        refine .inr ⟨p1, p2, vs, us, rfl, rfl, h1, h2, by rw [r1.length, r2.length]; exact hc, fun q hq => p.newL rel hq (r1.append r2)⟩
      · exact False.elim p
    · exact False.elim p
theorem rpL_rep {vs : List V} {l : List D} (h : RpL K G α n vs l) : ∀ k : Nat, RpL K G α n (List.replicate k vs).flatten (List.replicate k l).flatten
  | 0 => .nil
  | k + 1 => by rw [List.replicate_succ, List.replicate_succ, List.flatten_cons, List.flatten_cons]; exact h.append (rpL_rep h k)
theorem j_mul : J2 K ct H0 rMulZ fMul := fun W S s σ H Hs Hs' x y a b Q rel ia ib p => by
  unfold fMul at p
  split at p
  · rename_i i j
    cases rp_int ia; cases rp_int ib
    split at p
    · rename_i hc
      exact .inl ⟨i, j, rfl, rfl, hc, p.val rel (.int _)⟩
    · exact False.elim p
  · rename_i a' j _
    cases rp_int ib
    split at p
    · rename_i l e1
      split at p
      · rename_i hc
        obtain ⟨p1, vs, rfl, h1, r1⟩ := viewX_ok rel ia e1
        exact .inr ⟨p1, j, vs, rfl, rfl, h1, hc.1, hc.2.1, by rw [r1.length]; exact hc.2.2, fun q hq => p.newL rel hq (rpL_rep r1 _)⟩
      · exact False.elim p
    · exact False.elim p
  · exact False.elim p
theorem j_eq : J2 K ct H0 (rEqZ K) fEq := fun W S s σ H Hs Hs' x y a b Q rel ia ib p => by
  unfold fEq at p
  split at p
  · rename_i k e
    obtain ⟨d, f, h1, h2, h3, h4, rfl⟩ := eqOf_ok rel ia ib e
    exact .inr ⟨d, f, h1, h2, h3, h4, p.val rel (.bl _)⟩
  · exact False.elim p
theorem j_ne : J2 K ct H0 (rNeZ K) fNe := fun W S s σ H Hs Hs' x y a b Q rel ia ib p => by
  unfold fNe at p
  split at p
  · rename_i k e
    obtain ⟨d, f, h1, h2, h3, h4, rfl⟩ := eqOf_ok rel ia ib e
    exact .inr ⟨d, f, h1, h2, h3, h4, p.val rel (.bl _)⟩
  · exact False.elim p
theorem rp_isN {v : V} {d : D} (h : Rp K G α n v d) : decide (v = .non) = d.isN := by cases h <;> rfl
theorem j_is : J2 K ct H0 rIsZ fIs := fun W S s σ H Hs Hs' x y a b Q rel ia ib p => by
  unfold fIs at p
  split at p
  · rename_i k e
    unfold isOf at e
    split at e
    · rename_i b1 b2
      cases rp_bl ia; cases rp_bl ib; cases e
      exact .inr ⟨b1, b2, rfl, rfl, p.val rel (.bl _)⟩
    · rename_i a' _
      obtain ⟨d, e1, rfl⟩ := Option.map_eq_some_iff.mp e
      have ib' : Rp K S.G S.α s.M.length y .non := ib
      cases ib'
      refine .inl ⟨rfl, ?_⟩
      rw [rp_isN (look_ok rel ia e1)]
      exact p.val rel (.bl _)
    · cases e
  · exact False.elim p
theorem j_isn : J2 K ct H0 rIsnZ fIsn := fun W S s σ H Hs Hs' x y a b Q rel ia ib p => by
  unfold fIsn at p
  split at p
  · rename_i k e
    unfold isOf at e
    split at e
    · rename_i b1 b2
      cases rp_bl ia; cases rp_bl ib; cases e
      exact .inr ⟨b1, b2, rfl, rfl, p.val rel (.bl _)⟩
    · rename_i a' _
      obtain ⟨d, e1, rfl⟩ := Option.map_eq_some_iff.mp e
      have ib' : Rp K S.G S.α s.M.length y .non := ib
      cases ib'
      refine .inl ⟨rfl, ?_⟩
      rw [rp_isN (look_ok rel ia e1)]
      exact p.val rel (.bl _)
    · cases e
  · exact False.elim p
theorem atI_rp {vs : List V} {l : List D} {i : Int} {d : D} (r : RpL K G α n vs l) (e : atI l i = some d) : ∃ v, atI vs i = some v ∧ Rp K G α n v d := by
  unfold atI at e ⊢
  obtain ⟨j, e1, e2⟩ := Option.bind_eq_some_iff.mp e
  obtain ⟨v, h1, h2⟩ := r.get e2
  exact ⟨v, by rw [r.length, e1]; exact h1, h2⟩
theorem j_ix : J2 K ct H0 (rIx K) fIx := fun W S s σ H Hs Hs' x y a b Q rel ia ib p => by
  unfold fIx at p
  split at p
  · rename_i i
    cases rp_int ib
    split at p
    · rename_i z
      cases rp_str ia
      split at p
      · rename_i hz
        split at p
        · rename_i c e
          exact .inr (.inr ⟨z, i, c, rfl, rfl, hz, e, p.val rel (.str _)⟩)
        · exact False.elim p
      · exact False.elim p
    · split at p
      · rename_i l e
        split at p
        · rename_i d e2
          obtain ⟨q, vs, rfl, h1, r1⟩ := viewL_ok rel ia e
          obtain ⟨v, h2, h3⟩ := atI_rp r1 e2
          exact .inl ⟨q, vs, i, v, rfl, rfl, h1, h2, p.val rel h3⟩
        · exact False.elim p
      · split at p
        · rename_i l e
          split at p
          · rename_i d e2
            obtain ⟨q, vs, rfl, h1, r1⟩ := viewT_ok rel ia e
            obtain ⟨v, h2, h3⟩ := atI_rp r1 e2
            exact .inr (.inl ⟨q, vs, i, v, rfl, rfl, h1, h2, p.val rel h3⟩)
          · exact False.elim p
        · exact False.elim p
  · exact False.elim p
end
end Y
namespace Y
open PySem L2 Z
section
variable {X : Cx}
def rDIx : R2 := fun x y H Q => ∃ a v, x = .ref a ∧ DGet H a y (some v) ∧ Q v H
theorem ix_dict (hu : X.A.units + 1 < cLine) : IxR X rDIx := by
  intro value slice pins s σ H x y v u Q I rx ry h hs
  obtain ⟨a, r, rfl, g, q⟩ := h
  obtain rfl : v = Value.ref a := rx
  exact PyProof.Rows.tail_any (dict_typeIs I g) PySem.F.slot_dict_getitem.lookup (d_getItem hu I g ry fun w' s3 I3 rw' => ⟨r, H, I3, rw', q⟩) hs
def rIxY (K : PySem.W.Frag) : R2 := fun x y H Q => rIx K x y H Q ∨ rDIx x y H Q
theorem ix_Y {K : PySem.W.Frag} (hK : X.K = K) (hu : X.A.units + 1 < cLine) : IxR X (rIxY K) := by subst hK; exact ix_seq.or (ix_dict hu)
def rDIn (k : Bool → Bool) : R2 := fun y x H Q => ∃ a o, x = .ref a ∧ DGet H a y o ∧ Q (.bl (k o.isSome)) H
theorem op_din (hu : X.A.units + 1 < cLine) : OpR X (compareOp .In) (rDIn id) := by
  intro pins s σ H y x v u Q I ry rx h
  obtain ⟨a, o, rfl, g, q⟩ := h
  obtain rfl : u = Value.ref a := rx
  exact d_in hu I g ry fun s3 I3 => ⟨.bl o.isSome, H, I3, rfl, q⟩
def rSIn (k : Bool → Bool) : R2 := fun x y H Q => ∃ i j, x = .str i ∧ y = .str j ∧ Q (.bl (k (!(Builtin.Str.occurrences j i 0 j.length 1).isEmpty))) H
/-- in, not in: of a list, a tuple of flat things, a text, a dict -/
def rInY (K : PySem.W.Frag) : R2 := fun x y H Q => ((rInD K x y H Q ∨ rIn K false x y H Q) ∨ rSIn id x y H Q) ∨ rDIn id x y H Q
theorem op_inY {K : PySem.W.Frag} (hK : X.K = K) (hu : X.A.units + 65 < cLine) : OpR X (compareOp .In) (rInY K) := by
  subst hK; exact L2.OpR.or (L2.OpR.or (L2.OpR.or (op_inD hu) op_in_seq) op_in_str) (op_din (by omega))
/-- len of a dict, too -/
def rLenY (K : PySem.W.Frag) : List V → Hp → VK → Prop := fun xs H Q => rLenZ K xs H Q ∨ ∃ a kvs, xs = [V.ref a] ∧ Rd H a (.dK kvs) ∧ Q (.int kvs.length) H
theorem call_lenR : CallR X (.builtin "len") (fun xs H Q => ∃ a kvs, xs = [V.ref a] ∧ Rd H a (.dK kvs) ∧ Q (.int kvs.length) H) := by
  intro pins s σ H xs us Q I r h
  obtain ⟨a, kvs, rfl, ha, q⟩ := h
  obtain ⟨u, rfl, ru⟩ := vals1 r
  cases ru
  exact d_len I ha fun t s' I' => ⟨.int kvs.length, H, I', ⟨t, rfl⟩, q⟩
theorem call_lenY {K : PySem.W.Frag} (hK : X.K = K) : CallR X (.builtin "len") (rLenY K) := L2.CallR.or (call_lenZ hK) call_lenR
end
section
variable {κ β γ : Type} [DecidableEq κ]
def vl (l : List (κ × β)) (k : κ) : Option β := (l.find? fun p => decide (p.1 = k)).map (·.2)
def pu (l : List (κ × β)) (k : κ) (v : β) : List (κ × β) := if (l.any fun p => decide (p.1 = k)) = true then l.map (fun p => if p.1 = k then (p.1, v) else p) else l ++ [(k, v)]
def dr (l : List (κ × β)) (k : κ) : List (κ × β) := l.filter fun p => decide (p.1 ≠ k)
end
section
variable {K : PySem.W.Frag} {G : Hp} {α : Nat → Addr} {n : Nat} {κ : Type} [DecidableEq κ]
inductive RpK (K : PySem.W.Frag) (G : Hp) (α : Nat → Addr) (n : Nat) {κ : Type} : List (κ × V) → List (κ × D) → Prop
  | nil : RpK K G α n [] []
  | cons {k : κ} {v : V} {d : D} {kvs : List (κ × V)} {l : List (κ × D)} : Rp K G α n v d → RpK K G α n kvs l → RpK K G α n ((k, v) :: kvs) ((k, d) :: l)
theorem RpK.of {κ : Type} : ∀ {kvs : List (κ × V)} {l : List (κ × D)}, kvs.map Prod.fst = l.map Prod.fst → RpL K G α n (kvs.map Prod.snd) (l.map Prod.snd) → RpK K G α n kvs l
  | [], [], _, _ => .nil
  | [], _ :: _, e, _ => by simp at e
  | _ :: _, [], e, _ => by simp at e
  | (k, v) :: r, (k', d) :: r', e, h => by
    simp only [List.map_cons] at e h
    injection e with e1 e2
    have e1 : k = k' := e1
    subst e1
    cases h with
    | cons a b => exact .cons a (RpK.of e2 b)
theorem RpK.keys {κ : Type} : ∀ {kvs : List (κ × V)} {l : List (κ × D)}, RpK K G α n kvs l → kvs.map Prod.fst = l.map Prod.fst
  | _, _, .nil => rfl
  | _, _, .cons _ r => by rw [List.map_cons, List.map_cons, r.keys]
theorem RpK.vals {κ : Type} : ∀ {kvs : List (κ × V)} {l : List (κ × D)}, RpK K G α n kvs l → RpL K G α n (kvs.map Prod.snd) (l.map Prod.snd)
  | _, _, .nil => .nil
  | _, _, .cons a r => .cons a r.vals
theorem RpK.len {κ : Type} {kvs : List (κ × V)} {l : List (κ × D)} (h : RpK K G α n kvs l) : kvs.length = l.length := by
  have := congrArg List.length h.keys
  simpa using this
theorem RpK.get {k : κ} : ∀ {kvs : List (κ × V)} {l : List (κ × D)}, RpK K G α n kvs l → (vl l k = none ∧ valV kvs k = none) ∨ ∃ v d, vl l k = some d ∧ valV kvs k = some v ∧ Rp K G α n v d
  | _, _, .nil => .inl ⟨rfl, rfl⟩
  | _, _, .cons (k := k') (v := v) (d := d) (kvs := kvs) (l := l) a r => by
    by_cases e : k' = k
    · refine .inr ⟨v, d, ?_, ?_, a⟩
      · unfold vl; rw [List.find?_cons, decide_eq_true (show (k', d).1 = k from e)]; rfl
      · exact valV_pos e
    · have h1 : vl ((k', d) :: l) k = vl l k := by unfold vl; rw [List.find?_cons, decide_eq_false (show ¬ (k', d).1 = k from e)]
      rw [h1, valV_neg (p := (k', v)) e]
      exact r.get
theorem RpK.append {κ : Type} : ∀ {kvs kvs' : List (κ × V)} {l l' : List (κ × D)}, RpK K G α n kvs l → RpK K G α n kvs' l' → RpK K G α n (kvs ++ kvs') (l ++ l')
  | _, _, _, _, .nil, h => h
  | _, _, _, _, .cons a r, h => .cons a (r.append h)
theorem RpK.any {k : κ} : ∀ {kvs : List (κ × V)} {l : List (κ × D)}, RpK K G α n kvs l → (kvs.any fun p => decide (p.1 = k)) = l.any fun p => decide (p.1 = k)
  | _, _, .nil => rfl
  | _, _, .cons _ r => by rw [List.any_cons, List.any_cons, r.any]
theorem RpK.put {k : κ} {v : V} {d : D} {kvs : List (κ × V)} {l : List (κ × D)} (h : RpK K G α n kvs l) (hv : Rp K G α n v d) : RpK K G α n (putK kvs k v) (pu l k d) := by
  have mp : ∀ {kvs : List (κ × V)} {l : List (κ × D)}, RpK K G α n kvs l → RpK K G α n (kvs.map fun kv => if kv.1 = k then (kv.1, v) else kv) (l.map fun p => if p.1 = k then (p.1, d) else p) := by
    intro kvs l h
    induction h with
    | nil => exact .nil
    | @cons k' v' d' kvs l a r ih =>
      rw [List.map_cons, List.map_cons]
      by_cases e : k' = k
      · rw [if_pos (show (k', v').1 = k from e), if_pos (show (k', d').1 = k from e)]; exact .cons hv ih
      · rw [if_neg (show ¬ (k', v').1 = k from e), if_neg (show ¬ (k', d').1 = k from e)]; exact .cons a ih
  unfold putK pu
  rw [h.any]
  split
  · exact mp h
  · exact h.append (.cons hv .nil)
theorem RpK.drop {k : κ} : ∀ {kvs : List (κ × V)} {l : List (κ × D)}, RpK K G α n kvs l → RpK K G α n (dropK kvs k) (dr l k)
  | _, _, .nil => .nil
  | _, _, .cons (k := k') (v := v) (d := d) (kvs := kvs) (l := l) a r => by
    unfold dropK dr
    rw [List.filter_cons, List.filter_cons]
    by_cases e : k' = k
    · rw [if_neg (by simp [e]), if_neg (by simp [e])]; exact r.drop
    · rw [if_pos (by simp [e]), if_pos (by simp [e])]; exact .cons a r.drop
theorem RpK.mono {κ : Type} {G' : Hp} {α' : Nat → Addr} {n' : Nat} {kvs : List (κ × V)} {l : List (κ × D)} (s : Same G G') (ha : ∀ k, k < n → α' k = α k) (hn : n ≤ n') (h : RpK K G α n kvs l) : RpK K G' α' n' kvs l := RpK.of h.keys (h.vals.mono s ha hn)
end
section
variable {K : PySem.W.Frag} {ct : Ct} {H0 : Hp} {W : WX}
def truD (M : List Cn) : D → Option Bool
  | .non => some false
  | .bl b => some b
  | .int i => some (!decide (i = 0))
  | .str x => if x.length ≤ sizeLine then some (!decide ((x.length : Int) = 0)) else none
  | .tup l => some (!l.isEmpty)
  | .ctp l => some (!l.isEmpty)
  | .lst l => some (!l.isEmpty)
  | .clst l => some (!l.isEmpty)
  | .cid k => M[k]?.bind fun c => match c with
    | .lst l => some (!l.isEmpty)
    | .dK l => some (!l.isEmpty)
    | _ => none
  | _ => none
def mTru (m : Mo AI) : Mo Bool := fun s => (m s).bind fun a s1 => match (look s1 a).bind (truD s1.M) with
  | some b => .ok b s1
  | none => .no
theorem emp_len {α β : Type} {l : List α} {m : List β} (h : l.length = m.length) : (!l.isEmpty) = !m.isEmpty := by
  cases l <;> cases m <;> first | rfl | (simp at h)
theorem tru_ok {S : Sh} {s : Stt} {σ : St} {H : Hp} {v : V} {d : D} {b : Bool} (rel : Rel K ct H0 S s σ H) (r : Rp K (U ct.lk H) S.α s.M.length v d) (e : truD s.M d = some b) : TruV K v H b := by
  cases r with
  | non => cases e; rfl
  | bl b => cases e; rfl
  | int i =>
    cases e
    show (!decide (i = 0)) = (i != 0)
    by_cases q : i = 0 <;> simp [q]
  | str x =>
    have e1 : (if x.length ≤ sizeLine then some (!decide ((x.length : Int) = 0)) else none) = some b := e
    by_cases h : x.length ≤ sizeLine
    · rw [if_pos h] at e1
      cases e1
      refine ⟨h, ?_⟩
      by_cases q : (x.length : Int) = 0
      · rw [decide_eq_true q, q]; rfl
      · rw [decide_eq_false q]; exact (bne_iff_ne.mpr q).symm
    · rw [if_neg h] at e1; cases e1
  | tup h r => cases e; exact .inr (.inl ⟨_, .of (uP' h), (emp_len r.length).symm⟩)
  | ctp h r => cases e; exact .inr (.inl ⟨_, uSqT h, (emp_len r.length).symm⟩)
  | lst h r => cases e; exact .inl ⟨_, .of (uL' h), (emp_len r.length).symm⟩
  | clst h r => cases e; exact .inl ⟨_, uSqL h, (emp_len r.length).symm⟩
  | dK h e1 r => cases e
  | dT h e1 r => cases e
  | ty m => cases e
  | @cid k h =>
    obtain ⟨c, q, e1⟩ := Option.bind_eq_some_iff.mp e
    have hh := (rel.ids k c q).2
    cases c with
    | lst l => cases e1; obtain ⟨vs, h1, h2⟩ := hh; exact .inl ⟨_, .of h1, (emp_len h2.length).symm⟩
    | dK l => cases e1; obtain ⟨vs, h1, h3, h2⟩ := hh; exact .inr (.inr ⟨_, h1, (emp_len (RpK.of h3 h2).len).symm⟩)
    | dT l => cases e1
    | obj c fs => cases e1
theorem et_tru {ta : TE} {m : Mo AI} (h : Ei K ct H0 W ta m) : Et K ct H0 W (tTruZ K ta) (mTru m) := fun S s σ H Q rel p =>
  h S s σ H _ rel (Pst.bind bB p fun S1 s1 H1 x a st1 rel1 i1 p1 => by
    split at p1
    · rename_i b e
      obtain ⟨d, e1, e2⟩ := Option.bind_eq_some_iff.mp e
      exact ⟨b, tru_ok rel1 (look_ok rel1 i1 e1) e2, p1 S1 b H1 .refl rel1 rfl⟩
    · exact False.elim p1)
/-- a truth value -/
def blOf : AI → Option Bool
  | .val (.bl b) => some b
  | _ => none
def mBl (m : Mo AI) : Mo Bool := fun s => (m s).bind fun a s1 => match blOf a with
  | some b => .ok b s1
  | none => .no
theorem blOf_eq {a : AI} {b : Bool} (e : blOf a = some b) : a = .val (.bl b) := by
  unfold blOf at e
  split at e
  · cases e; rfl
  · cases e
theorem et_tst {ta : TE} {m : Mo AI} (h : Ei K ct H0 W ta m) : Et K ct H0 W (tTest ta) (mBl m) := fun S s σ H Q rel p =>
  h S s σ H _ rel (Pst.bind bB p fun S1 s1 H1 x a st1 rel1 i1 p1 => by
    split at p1
    · rename_i b e
      cases blOf_eq e
      cases rp_bl i1
      exact ⟨b, rfl, p1 S1 b H1 .refl rel1 rfl⟩
    · exact False.elim p1)
def mAnd (m1 m2 : Mo Bool) : Mo Bool := fun s => (m1 s).bind fun c s1 => if c = true then m2 s1 else .ok false s1
def mOr (m1 m2 : Mo Bool) : Mo Bool := fun s => (m1 s).bind fun c s1 => if c = true then .ok true s1 else m2 s1
def mNot (m1 : Mo Bool) : Mo Bool := fun s => (m1 s).bind fun c s1 => .ok (!c) s1
theorem et_and {t u : TT} {m1 m2 : Mo Bool} (h1 : Et K ct H0 W t m1) (h2 : Et K ct H0 W u m2) : Et K ct H0 W (tAnd t u) (mAnd m1 m2) := fun S s σ H Q rel p =>
  h1 S s σ H _ rel (Pst.bind bB p fun S1 s1 H1 x a st1 rel1 i1 p1 => by
    cases (show x = a from i1)
    cases x with
    | true => rw [if_pos rfl] at p1 ⊢; exact h2 S1 s1 σ H1 Q rel1 p1
    | false => rw [if_neg Bool.false_ne_true] at p1 ⊢; exact p1 S1 false H1 .refl rel1 rfl)
theorem et_or {t u : TT} {m1 m2 : Mo Bool} (h1 : Et K ct H0 W t m1) (h2 : Et K ct H0 W u m2) : Et K ct H0 W (tOr t u) (mOr m1 m2) := fun S s σ H Q rel p =>
  h1 S s σ H _ rel (Pst.bind bB p fun S1 s1 H1 x a st1 rel1 i1 p1 => by
    cases (show x = a from i1)
    cases x with
    | true => rw [if_pos rfl] at p1 ⊢; exact p1 S1 true H1 .refl rel1 rfl
    | false => rw [if_neg Bool.false_ne_true] at p1 ⊢; exact h2 S1 s1 σ H1 Q rel1 p1)
theorem et_not {t : TT} {m1 : Mo Bool} (h1 : Et K ct H0 W t m1) : Et K ct H0 W (tNot t) (mNot m1) := fun S s σ H Q rel p =>
  h1 S s σ H _ rel (Pst.bind bB p fun S1 s1 H1 x a st1 rel1 i1 p1 => by
    cases (show x = a from i1)
    exact p1 S1 (!x) H1 .refl rel1 rfl)
/-- and, or, not as values, of truth values -/
def mAndV (m1 m2 : Mo AI) : Mo AI := fun s => (m1 s).bind fun a s1 => match blOf a with
  | some true => m2 s1
  | some false => .ok (.val (.bl false)) s1
  | none => .no
def mOrV (m1 m2 : Mo AI) : Mo AI := fun s => (m1 s).bind fun a s1 => match blOf a with
  | some true => .ok (.val (.bl true)) s1
  | some false => m2 s1
  | none => .no
def mNotV (m1 : Mo AI) : Mo AI := fun s => (m1 s).bind fun a s1 => match blOf a with
  | some b => .ok (.val (.bl (!b))) s1
  | none => .no
theorem ei_andV {ta tb : TE} {m1 m2 : Mo AI} (h1 : Ei K ct H0 W ta m1) (h2 : Ei K ct H0 W tb m2) : Ei K ct H0 W (tAndV ta tb) (mAndV m1 m2) := fun S s σ H Q rel p =>
  h1 S s σ H _ rel (Pst.bind bI p fun S1 s1 H1 x a st1 rel1 i1 p1 => by
    split at p1
    · rename_i e; cases blOf_eq e; cases rp_bl i1
      exact ⟨true, rfl, by rw [if_pos rfl]; exact h2 S1 s1 σ H1 Q rel1 p1⟩
    · rename_i e; cases blOf_eq e; cases rp_bl i1
      exact ⟨false, rfl, by rw [if_neg Bool.false_ne_true]; exact p1.val rel1 (.bl _)⟩
    · exact False.elim p1)
theorem ei_notV {ta : TE} {m1 : Mo AI} (h1 : Ei K ct H0 W ta m1) : Ei K ct H0 W (tNotV ta) (mNotV m1) := fun S s σ H Q rel p =>
  h1 S s σ H _ rel (Pst.bind bI p fun S1 s1 H1 x a st1 rel1 i1 p1 => by
    split at p1
    · rename_i b e; cases blOf_eq e; cases rp_bl i1
      exact ⟨b, rfl, p1.val rel1 (.bl _)⟩
    · exact False.elim p1)
def mIf {α : Type} (c : Mo Bool) (m1 m2 : Mo α) : Mo α := fun s => (c s).bind fun b s1 => if b = true then m1 s1 else m2 s1
/-- a < b < c: nothing is changed in between -/
def mChain (f f' : Stt → AI → AI → Ro AI) (m1 m2 m3 : Mo AI) : Mo AI := fun s => (m1 s).bind fun a s1 => (m2 s1).bind fun b s2 => (f s2 a b).bind fun z s3 => match blOf z with
  | some true => (m3 s3).bind fun c s4 => f' s4 b c
  | some false => .ok (.val (.bl false)) s3
  | none => .no
theorem ei_chain {r r' : R2} {f f' : Stt → AI → AI → Ro AI} {ta tb tc : TE} {m1 m2 m3 : Mo AI} (ho : J2 K ct H0 r f) (ho' : J2 K ct H0 r' f') (h1 : Ei K ct H0 W ta m1) (h2 : Ei K ct H0 W tb m2) (h3 : Ei K ct H0 W tc m3) : Ei K ct H0 W (tChain r r' ta tb tc) (mChain f f' m1 m2 m3) := fun S s σ H Q rel p =>
  h1 S s σ H _ rel (Pst.bind bI p fun S1 s1 H1 x a st1 rel1 i1 p1 => h2 S1 s1 σ H1 _ rel1 (Pst.bind bI p1 fun S2 s2 H2 y b st2 rel2 i2 p2 =>
    ho W S2 s2 σ H2 _ _ x y a b _ rel2 (i1.step st2) i2 (Pst.bind bI p2 fun S3 s3 H3 z c st3 rel3 i3 p3 => by
      split at p3
      · rename_i e; cases blOf_eq e; cases rp_bl i3
        exact ⟨true, rfl, by rw [if_pos rfl]; exact h3 S3 s3 σ H3 _ rel3 (Pst.bind bI p3 fun S4 s4 H4 z' c' st4 rel4 i4 p4 => ho' W S4 s4 σ H4 _ _ y z' b c' Q rel4 ((i2.step st3).step st4) i4 p4)⟩
      · rename_i e; cases blOf_eq e; cases rp_bl i3
        exact ⟨false, rfl, by rw [if_neg Bool.false_ne_true]; exact p3.val rel3 (.bl _)⟩
      · exact False.elim p3)))
end
end Y
namespace Y
open PySem L2 Z
section
variable {K : PySem.W.Frag} {ct : Ct} {H0 : Hp} {W : WX}
inductive AsOk (K : PySem.W.Frag) (ct : Ct) (Hs : Hp) (S : Sh) (s : Stt) (σ : St) (H : Hp) : List V → List AI → Prop
  | nil : AsOk K ct Hs S s σ H [] []
  | cons {v : V} {a : AI} {vs : List V} {as : List AI} : ItOk K ct Hs S s σ H v a → AsOk K ct Hs S s σ H vs as → AsOk K ct Hs S s σ H (v :: vs) (a :: as)
def RA (K : PySem.W.Frag) (ct : Ct) : RR (List V) (List AI) := fun H S s σ H' v a => AsOk K ct H S s σ H' v a
theorem bA : Bck (RA K ct) := fun H1 H S s σ H' v a k h => by
  induction (show AsOk K ct H1 S s σ H' v a from h) with
  | nil => exact AsOk.nil
  | cons i _ ih => exact AsOk.cons (bI _ _ _ _ _ _ _ _ k i) (ih ‹_›)
abbrev EaL (K : PySem.W.Frag) (ct : Ct) (H0 : Hp) (W : WX) (t : TA) (m : Mo (List AI)) : Prop := Jd K ct H0 (RA K ct) W t m
def aNil : Mo (List AI) := fun s => .ok [] s
def aCons (m : Mo AI) (r : Mo (List AI)) : Mo (List AI) := fun s => (m s).bind fun a s1 => (r s1).bind fun as s2 => .ok (a :: as) s2
theorem ea_nil : EaL K ct H0 W tNil aNil := fun S s σ H Q rel p => p S [] H .refl rel .nil
theorem ea_cons {ta : TE} {tr : TA} {m : Mo AI} {r : Mo (List AI)} (h1 : Ei K ct H0 W ta m) (h2 : EaL K ct H0 W tr r) : EaL K ct H0 W (tCons ta tr) (aCons m r) := fun S s σ H Q rel p =>
  h1 S s σ H _ rel (by
    unfold aCons at p
    cases q : m s with
    | no => rw [q] at p; exact p
    | er x s' => rw [q] at p; exact p
    | ok a s1 =>
      rw [q] at p
      have p : Pst K ct H0 (RA K ct) W S s σ H Q ((r s1).bind fun as s2 => .ok (a :: as) s2) := p
      intro S1 v H1 st1 rel1 i1
      refine h2 S1 s1 σ H1 _ rel1 ?_
      cases q2 : r s1 with
      | no => rw [q2] at p; exact p
      | er x s' => rw [q2] at p; exact fun S' H' dd st rel q => p S' H' dd (st1.trans st) rel q
      | ok as s2 =>
        rw [q2] at p
        exact fun S2 vs H2 st2 rel2 i2 => p S2 (v :: vs) H2 (st1.trans st2) rel2 (.cons (i1.step st2) (bA _ _ _ _ _ _ _ _ st1.dom i2)))
def vNil : Mo (List D) := fun s => .ok [] s
def vCons (m : Mo AI) (r : Mo (List D)) : Mo (List D) := fun s => (mV m s).bind fun a s1 => (r s1).bind fun as s2 => .ok (a :: as) s2
theorem ev_nil : EvL K ct H0 W tNil vNil := fun S s σ H Q rel p => p S [] H .refl rel .nil
theorem ev_cons {ta : TE} {tr : TA} {m : Mo AI} {r : Mo (List D)} (h1 : Ei K ct H0 W ta m) (h2 : EvL K ct H0 W tr r) : EvL K ct H0 W (tCons ta tr) (vCons m r) := fun S s σ H Q rel p =>
  ev_of h1 S s σ H _ rel (Pst.bind bVL p fun S1 s1 H1 x a st1 rel1 i1 p1 => h2 S1 s1 σ H1 _ rel1 (Pst.bind bVL p1 fun S2 s2 H2 y b st2 rel2 i2 p2 => p2 S2 (x :: y) H2 .refl rel2 (.cons (Rp.step st2 i1) i2)))
def mLst (m : Mo (List D)) : Mo AI := fun s => (m s).bind fun l s1 => if l.length ≤ sizeLine then .ok (.new (.lst l)) s1 else .no
def mTup (m : Mo (List D)) : Mo AI := fun s => (m s).bind fun l s1 => if l.length ≤ sizeLine then .ok (.val (.tup l)) s1 else .no
theorem ei_lst {t : TA} {m : Mo (List D)} (h : EvL K ct H0 W t m) : Ei K ct H0 W (tLst t) (mLst m) := fun S s σ H Q rel p =>
  h S s σ H _ rel (Pst.bind bI p fun S1 s1 H1 x a st1 rel1 i1 p1 => by
    split at p1
    · rename_i hz
      exact ⟨by rw [RpL.length i1]; exact hz, fun q hq => p1.newL rel1 hq i1⟩
    · exact False.elim p1)
theorem ei_tup {t : TA} {m : Mo (List D)} (h : EvL K ct H0 W t m) : Ei K ct H0 W (tTup t) (mTup m) := fun S s σ H Q rel p =>
  h S s σ H _ rel (Pst.bind bI p fun S1 s1 H1 x a st1 rel1 i1 p1 => by
    split at p1
    · rename_i hz
      exact ⟨by rw [RpL.length i1]; exact hz, fun q hq => p1.newT rel1 hq i1⟩
    · exact False.elim p1)
def oNo : Mo (Option Int) := fun s => .ok none s
def oSm (m : Mo AI) : Mo (Option Int) := fun s => (m s).bind fun a s1 => match a with
  | .val (.int i) => .ok (some i) s1
  | _ => .no
theorem eo_no : Eo K ct H0 W tNoPart oNo := fun S s σ H Q rel p => p S none H .refl rel rfl
theorem eo_sm {t : TE} {m : Mo AI} (h : Ei K ct H0 W t m) : Eo K ct H0 W (tPart t) (oSm m) := fun S s σ H Q rel p =>
  h S s σ H _ rel (Pst.bind bO p fun S1 s1 H1 x a st1 rel1 i1 p1 => by
    split at p1
    · rename_i i
      cases rp_int i1
      exact ⟨i, rfl, p1 S1 (some i) H1 .refl rel1 rfl⟩
    · exact False.elim p1)
def cutL {β : Type} (xs : List β) (lo hi : Option Int) : List β := (xs.drop (HT.sIx xs.length 0 lo)).take (HT.sIx xs.length xs.length hi - HT.sIx xs.length 0 lo)
def fSl (s : Stt) (a : AI) (lo hi : Option Int) : Ro AI := match a with
  | .val (.str x) => if x.length ≤ sizeLine then .ok (.val (.str (cutS x lo hi))) s else .no
  | a => match viewL s a with
    | some l => .ok (.new (.lst (cutL l lo hi))) s
    | none => .no
def mSl (m : Mo AI) (ml mh : Mo (Option Int)) : Mo AI := fun s => (m s).bind fun a s1 => (ml s1).bind fun l s2 => (mh s2).bind fun h s3 => fSl s3 a l h
theorem ei_sl {te : TE} {tl th : TO} {m : Mo AI} {ml mh : Mo (Option Int)} (h1 : Ei K ct H0 W te m) (h2 : Eo K ct H0 W tl ml) (h3 : Eo K ct H0 W th mh) : Ei K ct H0 W (tSl (rSlZ K) te tl th) (mSl m ml mh) := fun S s σ H Q rel p =>
  h1 S s σ H _ rel (Pst.bind bI p fun S1 s1 H1 x a st1 rel1 i1 p1 => h2 S1 s1 σ H1 _ rel1 (Pst.bind bI p1 fun S2 s2 H2 lo lo' st2 rel2 i2 p2 => h3 S2 s2 σ H2 _ rel2 (Pst.bind bI p2 fun S3 s3 H3 hi hi' st3 rel3 i3 p3 => by
    cases (show lo = lo' from i2); cases (show hi = hi' from i3)
    have i1' := (i1.step st2).step st3
    unfold fSl at p3
    split at p3
    · rename_i z
      cases rp_str i1'
      split at p3
      · rename_i hz
        exact .inr ⟨z, rfl, hz, p3.val rel3 (.str _)⟩
      · exact False.elim p3
    · split at p3
      · rename_i l e
        obtain ⟨q, vs, rfl, k1, k2⟩ := viewL_ok rel3 i1' e
        refine .inl ⟨q, vs, rfl, k1, fun r hr => p3.newL rel3 hr ?_⟩
        show RpL _ _ _ _ ((vs.drop (HT.sIx vs.length 0 lo)).take (HT.sIx vs.length vs.length hi - HT.sIx vs.length 0 lo)) _
        rw [k2.length]
        exact (k2.drop _).take _
      · exact False.elim p3)))
def JB (K : PySem.W.Frag) (ct : Ct) (H0 : Hp) (r : List V → Hp → VK → Prop) (f : Stt → List AI → Ro AI) : Prop := ∀ W S s σ H Hs vs as Q, Rel K ct H0 S s σ H → AsOk K ct Hs S s σ H vs as → Pst K ct H0 (RI K ct) W S s σ H Q (f s as) → r vs H Q
def mCB (f : Stt → List AI → Ro AI) (m : Mo (List AI)) : Mo AI := fun s => (m s).bind fun as s1 => f s1 as
theorem ei_cb {r : List V → Hp → VK → Prop} {f : Stt → List AI → Ro AI} {t : TA} {m : Mo (List AI)} (hr : JB K ct H0 r f) (h : EaL K ct H0 W t m) : Ei K ct H0 W (tCB r t) (mCB f m) := fun S s σ H Q rel p =>
  h S s σ H _ rel (Pst.bind bI p fun S1 s1 H1 x a st1 rel1 i1 p1 => hr W S1 s1 σ H1 _ x a Q rel1 i1 p1)
def lenD (M : List Cn) : D → Option Nat
  | .str x => if x.length ≤ sizeLine then some x.length else none
  | .tup l => some l.length
  | .ctp l => some l.length
  | .lst l => some l.length
  | .clst l => some l.length
  | .dK l => some l.length
  | .cid k => M[k]?.bind fun c => match c with
    | .lst l => some l.length
    | .dK l => some l.length
    | _ => none
  | _ => none
def fLen (s : Stt) (as : List AI) : Ro AI := match as with
  | [a] => match (look s a).bind (lenD s.M) with
    | some n => .ok (.val (.int (n : Int))) s
    | none => .no
  | _ => .no
theorem as1 {Hs : Hp} {S : Sh} {s : Stt} {σ : St} {H : Hp} {vs : List V} {a : AI} (h : AsOk K ct Hs S s σ H vs [a]) : ∃ v, vs = [v] ∧ ItOk K ct Hs S s σ H v a := by
  cases h with | cons i r => cases r; exact ⟨_, rfl, i⟩
theorem as2 {Hs : Hp} {S : Sh} {s : Stt} {σ : St} {H : Hp} {vs : List V} {a b : AI} (h : AsOk K ct Hs S s σ H vs [a, b]) : ∃ v w, vs = [v, w] ∧ ItOk K ct Hs S s σ H v a ∧ ItOk K ct Hs S s σ H w b := by
  cases h with | cons i r => cases r with | cons j r => cases r; exact ⟨_, _, rfl, i, j⟩
theorem len_ok {S : Sh} {s : Stt} {σ : St} {H : Hp} {v : V} {d : D} {n : Nat} {Q : VK} (rel : Rel K ct H0 S s σ H) (r : Rp K (U ct.lk H) S.α s.M.length v d) (e : lenD s.M d = some n) (q : Q (.int n) H) : rLenY K [v] H Q := by
  cases r with
  | str x =>
    have e1 : (if x.length ≤ sizeLine then some x.length else none) = some n := e
    by_cases h : x.length ≤ sizeLine
    · rw [if_pos h] at e1
      cases e1
      exact .inl ⟨_, _, rfl, ⟨h, rfl⟩, q⟩
    · rw [if_neg h] at e1; cases e1
  | tup h r => cases e; exact .inl ⟨_, _, rfl, .inr ⟨_, .of (uP' h), r.length.symm⟩, q⟩
  | ctp h r => cases e; exact .inl ⟨_, _, rfl, .inr ⟨_, uSqT h, r.length.symm⟩, q⟩
  | lst h r => cases e; exact .inl ⟨_, _, rfl, .inl ⟨_, .of (uL' h), r.length.symm⟩, q⟩
  | clst h r => cases e; exact .inl ⟨_, _, rfl, .inl ⟨_, uSqL h, r.length.symm⟩, q⟩
  | dK h e1 r => cases e; exact .inr ⟨_, _, rfl, uK' h, by rw [(RpK.of e1 r).len]; exact q⟩
  | non => cases e
  | bl _ => cases e
  | int _ => cases e
  | dT h e1 r => cases e
  | ty m => cases e
  | @cid k h =>
    obtain ⟨c, qc, e1⟩ := Option.bind_eq_some_iff.mp e
    have hh := (rel.ids k c qc).2
    cases c with
    | lst l => cases e1; obtain ⟨vs, h1, h2⟩ := hh; exact .inl ⟨_, _, rfl, .inl ⟨_, .of h1, h2.length.symm⟩, q⟩
    | dK l => cases e1; obtain ⟨vs, h1, h3, h2⟩ := hh; exact .inr ⟨_, _, rfl, .inl h1, by rw [(RpK.of h3 h2).len]; exact q⟩
    | dT l => cases e1
    | obj c fs => cases e1
theorem jb_len : JB K ct H0 (rLenY K) fLen := fun W S s σ H Hs vs as Q rel ia p => by
  unfold fLen at p
  split at p
  · rename_i a
    obtain ⟨v, rfl, i⟩ := as1 ia
    split at p
    · rename_i n e
      obtain ⟨d, e1, e2⟩ := Option.bind_eq_some_iff.mp e
      exact len_ok rel (look_ok rel i e1) e2 (p.val rel (.int _))
    · exact False.elim p
  · exact False.elim p
/-- a list of whole numbers, of truth values -/
def intsD : List D → Option (List Int)
  | [] => some []
  | .int i :: l => (intsD l).map (i :: ·)
  | _ :: _ => none
def blsD : List D → Option (List Bool)
  | [] => some []
  | .bl i :: l => (blsD l).map (i :: ·)
  | _ :: _ => none
section
variable {G : Hp} {α : Nat → Addr} {n : Nat}
theorem ints_rp : ∀ {l : List D} {vs : List V} {ns : List Int}, RpL K G α n vs l → intsD l = some ns → vs = ns.map V.int
  | [], _, _, .nil, e => by cases e; rfl
  | .int i :: l, _, ns, .cons h r, e => by
    obtain ⟨ms, q, rfl⟩ := Option.map_eq_some_iff.mp (show (intsD l).map (i :: ·) = some ns from e)
    rw [rp_int h, ints_rp r q]; rfl
  | .non :: _, _, _, _, e => by cases e
  | .bl _ :: _, _, _, _, e => by cases e
  | .str _ :: _, _, _, _, e => by cases e
  | .tup _ :: _, _, _, _, e => by cases e
  | .ctp _ :: _, _, _, _, e => by cases e
  | .lst _ :: _, _, _, _, e => by cases e
  | .clst _ :: _, _, _, _, e => by cases e
  | .dK _ :: _, _, _, _, e => by cases e
  | .dT _ :: _, _, _, _, e => by cases e
  | .cid _ :: _, _, _, _, e => by cases e
  | .ty _ :: _, _, _, _, e => by cases e
theorem bls_rp : ∀ {l : List D} {vs : List V} {ns : List Bool}, RpL K G α n vs l → blsD l = some ns → vs = ns.map V.bl
  | [], _, _, .nil, e => by cases e; rfl
  | .bl i :: l, _, ns, .cons h r, e => by
    obtain ⟨ms, q, rfl⟩ := Option.map_eq_some_iff.mp (show (blsD l).map (i :: ·) = some ns from e)
    rw [rp_bl h, bls_rp r q]; rfl
  | .non :: _, _, _, _, e => by cases e
  | .int _ :: _, _, _, _, e => by cases e
  | .str _ :: _, _, _, _, e => by cases e
  | .tup _ :: _, _, _, _, e => by cases e
  | .ctp _ :: _, _, _, _, e => by cases e
  | .lst _ :: _, _, _, _, e => by cases e
  | .clst _ :: _, _, _, _, e => by cases e
  | .dK _ :: _, _, _, _, e => by cases e
  | .dT _ :: _, _, _, _, e => by cases e
  | .cid _ :: _, _, _, _, e => by cases e
  | .ty _ :: _, _, _, _, e => by cases e
end
/-- a builtin of one list of whole numbers, of truth values -/
def fInts (g : List Int → Option D) (s : Stt) (as : List AI) : Ro AI := match as with
  | [a] => match ((viewL s a).bind intsD).bind g with
    | some d => .ok (.val d) s
    | none => .no
  | _ => .no
def fBls (g : List Bool → D) (s : Stt) (as : List AI) : Ro AI := match as with
  | [a] => match (viewL s a).bind blsD with
    | some bs => .ok (.val (g bs)) s
    | none => .no
  | _ => .no
def gSum (ns : List Int) : Option D := some (.int ns.sum)
def gMax : List Int → Option D
  | [] => none
  | n :: ns => some (.int (ns.foldl max n))
theorem fInts_ok {g : List Int → Option D} {S : Sh} {s : Stt} {σ : St} {H Hs : Hp} {vs : List V} {as : List AI} {Q : VK} (rel : Rel K ct H0 S s σ H) (ia : AsOk K ct Hs S s σ H vs as) (p : Pst K ct H0 (RI K ct) W S s σ H Q (fInts g s as)) :
    ∃ q ns d, vs = [.ref q] ∧ SqL K H q (ns.map V.int) ∧ g ns = some d ∧ Pst K ct H0 (RI K ct) W S s σ H Q (.ok (.val d) s) := by
  unfold fInts at p
  split at p
  · rename_i a
    obtain ⟨v, rfl, i⟩ := as1 ia
    split at p
    · rename_i d e
      obtain ⟨ns, e1, e2⟩ := Option.bind_eq_some_iff.mp e
      obtain ⟨l, e0, e1⟩ := Option.bind_eq_some_iff.mp e1
      obtain ⟨q, us, rfl, k1, k2⟩ := viewL_ok rel i e0
      rw [ints_rp k2 e1] at k1
      exact ⟨q, ns, d, rfl, k1, e2, p⟩
    · exact False.elim p
  · exact False.elim p
theorem jb_sum : JB K ct H0 (rSum K) (fInts gSum) := fun W S s σ H Hs vs as Q rel ia p => by
  obtain ⟨q, ns, d, rfl, h, e, p⟩ := fInts_ok rel ia p
  cases e
  exact ⟨q, ns, rfl, h, p.val rel (.int _)⟩
theorem fold_max (n : Int) (ns : List Int) : ns.foldl max n ∈ n :: ns ∧ ∀ y ∈ n :: ns, y ≤ ns.foldl max n := by
  induction ns generalizing n with
  | nil => exact ⟨by simp, fun y hy => by simp at hy; rw [hy]; exact Int.le_refl _⟩
  | cons m ms ih =>
    obtain ⟨h1, h2⟩ := ih (max n m)
    have hm := h2 (max n m) (by simp)
    refine ⟨?_, fun y hy => ?_⟩
    · show ms.foldl max (max n m) ∈ _
      rcases List.mem_cons.mp h1 with e | e
      · rw [e]
        by_cases l : n ≤ m
        · rw [Int.max_eq_right l]; simp
        · rw [Int.max_eq_left (by omega)]; simp
      · simp [e]
    · show y ≤ ms.foldl max (max n m)
      rcases List.mem_cons.mp hy with rfl | hy
      · omega
      · rcases List.mem_cons.mp hy with rfl | hy
        · omega
        · exact h2 y (by simp [hy])
theorem jb_max : JB K ct H0 (rMax K) (fInts gMax) := fun W S s σ H Hs vs as Q rel ia p => by
  obtain ⟨q, ns, d, rfl, h, e, p⟩ := fInts_ok rel ia p
  cases ns with
  | nil => cases e
  | cons n ns =>
    cases e
    refine ⟨q, n :: ns, rfl, h, by simp, fun m hm k => ?_⟩
    have h2 := fold_max n ns
    have e : m = ns.foldl max n := by have := k _ h2.1; have := h2.2 m hm; omega
    rw [e]; exact p.val rel (.int _)
theorem fBls_ok {g : List Bool → D} {S : Sh} {s : Stt} {σ : St} {H Hs : Hp} {vs : List V} {as : List AI} {Q : VK} (rel : Rel K ct H0 S s σ H) (ia : AsOk K ct Hs S s σ H vs as) (p : Pst K ct H0 (RI K ct) W S s σ H Q (fBls g s as)) :
    ∃ q bs, vs = [.ref q] ∧ SqL K H q (bs.map V.bl) ∧ Pst K ct H0 (RI K ct) W S s σ H Q (.ok (.val (g bs)) s) := by
  unfold fBls at p
  split at p
  · rename_i a
    obtain ⟨v, rfl, i⟩ := as1 ia
    split at p
    · rename_i bs e
      obtain ⟨l, e0, e1⟩ := Option.bind_eq_some_iff.mp e
      obtain ⟨q, us, rfl, k1, k2⟩ := viewL_ok rel i e0
      rw [bls_rp k2 e1] at k1
      exact ⟨q, bs, rfl, k1, p⟩
    · exact False.elim p
  · exact False.elim p
theorem jb_all : JB K ct H0 (rAll K) (fBls fun bs => .bl (bs.all id)) := fun W S s σ H Hs vs as Q rel ia p => by
  obtain ⟨q, ns, rfl, h, p⟩ := fBls_ok rel ia p
  exact ⟨q, ns, rfl, h, p.val rel (.bl _)⟩
theorem jb_any : JB K ct H0 (rAny K) (fBls fun bs => .bl (bs.any id)) := fun W S s σ H Hs vs as Q rel ia p => by
  obtain ⟨q, ns, rfl, h, p⟩ := fBls_ok rel ia p
  exact ⟨q, ns, rfl, h, p.val rel (.bl _)⟩
def fI2 (g : Int → Int → Int) (s : Stt) (as : List AI) : Ro AI := match as with
  | [.val (.int i), .val (.int j)] => .ok (.val (.int (g i j))) s
  | _ => .no
theorem jb_min2 : JB K ct H0 rMin2 (fI2 min) := fun W S s σ H Hs vs as Q rel ia p => by
  unfold fI2 at p
  split at p
  · rename_i i j
    obtain ⟨v, w, rfl, h1, h2⟩ := as2 ia
    cases rp_int h1; cases rp_int h2
    exact z_min2 (p.val rel (.int _))
  · exact False.elim p
theorem jb_max2 : JB K ct H0 rMax2 (fI2 max) := fun W S s σ H Hs vs as Q rel ia p => by
  unfold fI2 at p
  split at p
  · rename_i i j
    obtain ⟨v, w, rfl, h1, h2⟩ := as2 ia
    cases rp_int h1; cases rp_int h2
    exact z_max2 (p.val rel (.int _))
  · exact False.elim p
/-- list(x) -/
def fList (s : Stt) (as : List AI) : Ro AI := match as with
  | [a] => match viewL s a with
    | some l => .ok (.new (.lst l)) s
    | none => match viewT s a with
      | some l => .ok (.new (.lst l)) s
      | none => .no
  | _ => .no
theorem jb_list : JB K ct H0 (rListOf K) fList := fun W S s σ H Hs vs as Q rel ia p => by
  unfold fList at p
  split at p
  · rename_i a
    obtain ⟨v, rfl, i⟩ := as1 ia
    split at p
    · rename_i l e
      obtain ⟨q, us, rfl, k1, k2⟩ := viewL_ok rel i e
      exact ⟨q, us, rfl, .inl k1, fun r hr => p.newL rel hr k2⟩
    · split at p
      · rename_i l e
        obtain ⟨q, us, rfl, k1, k2⟩ := viewT_ok rel i e
        exact ⟨q, us, rfl, .inr k1, fun r hr => p.newL rel hr k2⟩
      · exact False.elim p
  · exact False.elim p
/-- isinstance -/
def kindD (M : List Cn) : D → Option String
  | .non => some "NoneType"
  | .bl _ => some "bool"
  | .int _ => some "int"
  | .str _ => some "str"
  | .tup _ => some "tuple"
  | .lst _ => some "list"
  | .dK _ => some "dict"
  | .cid k => M[k]?.bind fun c => match c with
    | .lst _ => some "list"
    | .dK _ => some "dict"
    | _ => none
  | _ => none
def fIsi (s : Stt) (as : List AI) : Ro AI := match as with
  | [a, .val (.ty m)] => match ((look s a).bind (kindD s.M)).bind fun n => kitB n m with
    | some b => .ok (.val (.bl b)) s
    | none => .no
  | _ => .no
theorem kind_ok {S : Sh} {s : Stt} {σ : St} {H : Hp} {v : V} {d : D} {n : String} (rel : Rel K ct H0 S s σ H) (r : Rp K (U ct.lk H) S.α s.M.length v d) (e : kindD s.M d = some n) : TyX K H v (.type n) := by
  cases r with
  | non => cases e; exact .base .non
  | bl b => cases e; exact .base (.bl b)
  | int i => cases e; exact .base (.int i)
  | str x => cases e; exact .base (.str x)
  | tup h r => cases e; exact .base (.tup (uP' h))
  | lst h r => cases e; exact .base (.lst (uL' h))
  | dK h e1 r =>
    cases e
    rcases uK' h with h | ⟨o, h⟩
    · exact .base (.dK h)
    · exact .fDict h
  | ctp h r => cases e
  | clst h r => cases e
  | dT h e1 r => cases e
  | ty m => cases e
  | @cid k h =>
    obtain ⟨c, qc, e1⟩ := Option.bind_eq_some_iff.mp e
    have hh := (rel.ids k c qc).2
    cases c with
    | lst l => cases e1; obtain ⟨vs, h1, h2⟩ := hh; exact .base (.lst h1)
    | dK l => cases e1; obtain ⟨vs, h1, h3, h2⟩ := hh; exact .base (.dK h1)
    | dT l => cases e1
    | obj c fs => cases e1
theorem jb_isi : JB K ct H0 (rIsi K) fIsi := fun W S s σ H Hs vs as Q rel ia p => by
  unfold fIsi at p
  split at p
  · rename_i a m
    obtain ⟨v, w, rfl, h1, h2⟩ := as2 ia
    split at p
    · rename_i b e
      obtain ⟨n, e1, e2⟩ := Option.bind_eq_some_iff.mp e
      obtain ⟨d, e0, e1⟩ := Option.bind_eq_some_iff.mp e1
      have h2' : Rp K S.G S.α s.M.length w (.ty m) := h2
      cases h2'
      exact z_isi (kind_ok rel (look_ok rel h1 e0) e1) (kit_ty e2) (p.val rel (.bl _))
    · exact False.elim p
  · exact False.elim p
end
theorem kb_int_int : kitB "int" "int" = some true := by decide +kernel
theorem kb_int_bool : kitB "int" "bool" = some false := by decide +kernel
section
variable {K : PySem.W.Frag} {ct : Ct} {H0 : Hp} {W : WX}
def inOf (s : Stt) (a b : AI) : Option Bool := match a, b with
  | .val (.str i), .val (.str j) => some (!(Builtin.Str.occurrences j i 0 j.length 1).isEmpty)
  | a, b => match viewD s b with
    | some l => match a with
      | .val (.int i) => some (vl l (.inl i)).isSome
      | .val (.str x) => some (vl l (.inr x)).isSome
      | _ => none
    | none => match pyOf s a, pyOf s b with
      | some d, some (.list ds) => if SeqAt.shaped d && SeqAt.shaped (.list ds) then some (ds.any fun z => PyData.eqv z d) else none
      | _, _ => none
def fIn : Stt → AI → AI → Ro AI := fun s a b => match inOf s a b with
  | some k => .ok (.val (.bl k)) s
  | none => .no
theorem viewD_ok {S : Sh} {s : Stt} {σ : St} {H Hs : Hp} {v : V} {a : AI} {l : List (Key × D)} (r : Rel K ct H0 S s σ H) (i : ItOk K ct Hs S s σ H v a) (e : viewD s a = some l) : ∃ p kvs, v = .ref p ∧ Rd H p (.dK kvs) ∧ RpK K S.G S.α s.M.length kvs l := by
  have frz : ∀ {u : V} {d : D}, Rp K S.G S.α s.M.length u d → dictOf s.M d = some l → ∃ p kvs, u = .ref p ∧ Rd H p (.dK kvs) ∧ RpK K S.G S.α s.M.length kvs l := fun {u d} h e => by
    cases d with
    | dK l' => cases e; cases h with | dK h1 h3 h2 => exact ⟨_, _, rfl, uK' (r.sub _ _ h1), .of h3 h2⟩
    | cid k =>
      cases h
      obtain ⟨c, q, e1⟩ := Option.bind_eq_some_iff.mp (show s.M[k]?.bind Cn.aK = some l from e)
      cases c with
      | dK l' =>
        cases e1
        obtain ⟨vs, h1, h3, h2⟩ := (r.ids k _ q).2
        exact ⟨_, vs, rfl, .inl h1, .of h3 h2⟩
      | _ => cases e1
    | _ => cases e
  have own : ∀ {p : Addr} {c : Cn}, CnOk K ct S s.M.length H p c → dictOf s.M c.toD = some l → ∃ q kvs, V.ref p = .ref q ∧ Rd H q (.dK kvs) ∧ RpK K S.G S.α s.M.length kvs l := fun {p c} h e => by
    cases c with
    | dK l' => cases e; obtain ⟨vs, h1, h3, h2⟩ := h; exact ⟨p, vs, rfl, .inl h1, .of h3 h2⟩
    | lst l' => cases e
    | dT l' => cases e
    | obj _ _ => cases e
  unfold viewD at e
  cases a with
  | val d => exact frz i e
  | new c =>
    obtain ⟨p, rfl, _, _, _, hc, h5⟩ := i
    exact own h5 e
  | slot j =>
    obtain ⟨d, q0, e⟩ := Option.bind_eq_some_iff.mp e
    obtain ⟨en, q1, rfl⟩ := Option.map_eq_some_iff.mp q0
    have q := entAt_eq q1
    have hi : σ[j]? = some (some v) := i
    have hh := r.slot j en q
    cases en with
    | fz d =>
      obtain ⟨v', h1, h2⟩ := hh
      rw [hi] at h1; cases h1
      exact frz h2 e
    | xn x => exact (entAt_xn q1).elim
    | ow c =>
      obtain ⟨p, h1, _, _, hc, h5⟩ := hh
      rw [hi] at h1; cases h1
      exact own h5 e
theorem dget_ok {S : Sh} {n : Nat} {H : Hp} {p : Addr} {kvs : List (Key × V)} {l : List (Key × D)} {k : Key} (h : Rd H p (.dK kvs)) (r : RpK K S.G S.α n kvs l) :
    (vl l k = none ∧ DGet H p (kV k) none) ∨ ∃ v d, vl l k = some d ∧ DGet H p (kV k) (some v) ∧ Rp K S.G S.α n v d := by
  have g : DGet H p (kV k) (valV kvs k) := .inl ⟨kvs, k, h, rfl, rfl⟩
  rcases r.get (k := k) with ⟨h1, h2⟩ | ⟨v, d, h1, h2, h3⟩
  · rw [h2] at g; exact .inl ⟨h1, g⟩
  · rw [h2] at g; exact .inr ⟨v, d, h1, g, h3⟩
theorem in_ok {S : Sh} {s : Stt} {σ : St} {H Hs Hs' : Hp} {v w : V} {a b : AI} {k : Bool} {Q : VK} (g : Bool → Bool) (rel : Rel K ct H0 S s σ H) (i : ItOk K ct Hs S s σ H v a) (j : ItOk K ct Hs' S s σ H w b) (e : inOf s a b = some k) (q : Q (.bl (g k)) H) :
    (∃ d ds, Dp K H v d ∧ Dp K H w (.list ds) ∧ SeqAt.shaped d = true ∧ SeqAt.shaped (.list ds) = true ∧ Q (.bl (g (ds.any fun z => PyData.eqv z d))) H) ∨ rSIn g v w H Q ∨ rDIn g v w H Q := by
  unfold inOf at e
  split at e
  · rename_i x y
    cases rp_str i; cases rp_str j; cases e
    exact .inr (.inl ⟨x, y, rfl, rfl, q⟩)
  · split at e
    · rename_i l e1
      obtain ⟨p, kvs, rfl, h1, h2⟩ := viewD_ok rel j e1
      split at e
      · rename_i x _
        cases rp_int i; cases e
        rcases dget_ok (k := Sum.inl x) h1 h2 with ⟨h3, h4⟩ | ⟨v, d, h3, h4, h5⟩
        · rw [h3] at q; exact .inr (.inr ⟨p, _, rfl, h4, q⟩)
        · rw [h3] at q; exact .inr (.inr ⟨p, _, rfl, h4, q⟩)
      · rename_i x _
        cases rp_str i; cases e
        rcases dget_ok (k := Sum.inr x) h1 h2 with ⟨h3, h4⟩ | ⟨v, d, h3, h4, h5⟩
        · rw [h3] at q; exact .inr (.inr ⟨p, _, rfl, h4, q⟩)
        · rw [h3] at q; exact .inr (.inr ⟨p, _, rfl, h4, q⟩)
      · cases e
    · split at e
      · rename_i d ds e1 e2
        split at e
        · rename_i h
          rw [Bool.and_eq_true] at h
          cases e
          exact .inl ⟨d, ds, pyOf_ok rel i e1, pyOf_ok rel j e2, h.1, h.2, q⟩
        · cases e
      · cases e
theorem j_in : J2 K ct H0 (rInY K) fIn := fun W S s σ H Hs Hs' x y a b Q rel ia ib p => by
  unfold fIn at p
  split at p
  · rename_i k e
    rcases in_ok id rel ia ib e (p.val rel (.bl _)) with h | h | h
    · exact .inl (.inl (.inl h))
    · exact .inl (.inr h)
    · exact .inr h
  · exact False.elim p
/-- an item of a dict, too -/
def fIxY : Stt → AI → AI → Ro AI := fun s a b => match viewD s a with
  | some l => match b with
    | .val (.int i) => match vl l (.inl i) with
      | some d => .ok (.val d) s
      | none => .no
    | .val (.str x) => match vl l (.inr x) with
      | some d => .ok (.val d) s
      | none => .no
    | _ => .no
  | none => fIx s a b
theorem j_ixY : J2 K ct H0 (rIxY K) fIxY := fun W S s σ H Hs Hs' x y a b Q rel ia ib p => by
  unfold fIxY at p
  split at p
  · rename_i l e1
    obtain ⟨q, kvs, rfl, h1, h2⟩ := viewD_ok rel ia e1
    split at p
    · rename_i i
      cases rp_int ib
      split at p
      · rename_i d e
        rcases dget_ok (k := Sum.inl i) h1 h2 with ⟨h3, h4⟩ | ⟨v, d', h3, h4, h5⟩
        · rw [h3] at e; cases e
        · rw [h3] at e; cases e
          exact .inr ⟨q, v, rfl, h4, p.val rel h5⟩
      · exact False.elim p
    · rename_i i
      cases rp_str ib
      split at p
      · rename_i d e
        rcases dget_ok (k := Sum.inr i) h1 h2 with ⟨h3, h4⟩ | ⟨v, d', h3, h4, h5⟩
        · rw [h3] at e; cases e
        · rw [h3] at e; cases e
          exact .inr ⟨q, v, rfl, h4, p.val rel h5⟩
      · exact False.elim p
    · exact False.elim p
  · exact .inl (j_ix W S s σ H Hs Hs' x y a b Q rel ia ib p)
end
end Y
namespace Y
open PySem L2 Z
section
variable {K : PySem.W.Frag} {ct : Ct} {H0 : Hp} {W : WX} {S : Sh} {s : Stt} {σ : St} {H : Hp}
def Ent.own : Ent → Option Cn
  | .ow c => some c
  | .fz _ => none
  | .xn _ => none
def getC (s : Stt) : AI → Option Cn
  | .slot i => (entAt s i).bind Ent.own
  | .val (.cid k) => s.M[k]?
  | _ => none
def setC (s : Stt) (a : AI) (c : Cn) : Stt := match a with
  | .slot i => ⟨s.env.set i (some (.ow c)), s.M⟩
  | .val (.cid k) => ⟨s.env, s.M.set k c⟩
  | _ => s
theorem mut_ok {Hs : Hp} {v : V} {a : AI} {c : Cn} (r : Rel K ct H0 S s σ H) (i : ItOk K ct Hs S s σ H v a) (e : getC s a = some c) :
    ∃ p, v = .ref p ∧ CnOk K ct S s.M.length H p c ∧ ∀ o c', (c.isC = true → c'.isC = true) → CnOk K ct S s.M.length (upd H p o) p c' →
      Rel K ct H0 S (setC s a c') σ (upd H p o) ∧ Stp S s.M.length H S (setC s a c').M.length (upd H p o) := by
  have gen : ∀ (p : Addr) (l : Lab), S.lab p = some l → ∀ o : HO,
      (Same S.G (U ct.lk (upd H p o))) ∧ (∀ a l, S.lab a = some l → S.G a = none ∧ ∃ u, upd H p o a = some u) ∧ (∀ a, upd H p o a = none → H0 a = none) ∧
      (∀ {a : Addr} {c : Cn} {l' : Lab}, S.lab a = some l' → l' ≠ l → CnOk K ct S s.M.length H a c → CnOk K ct S s.M.length (upd H p o) a c) ∧ Stp S s.M.length H S s.M.length (upd H p o) := by
    intro p l hl o
    obtain ⟨hg, u0, hu0⟩ := r.lg p l hl
    refine ⟨fun a u q => ?_, fun a l' q => ?_, fun a q => r.dom a (upd_none.mp q).2, fun {a c l'} q ne h => ?_, ⟨fun _ _ q => q, Nat.le_refl _, fun _ _ => rfl, fun a u q ql => ⟨?_, ql⟩, fun _ _ q => .inl q, fun a q => (upd_none.mp q).2⟩⟩
    · rw [U_ne (fun z => by subst z; rw [hg] at q; cases q)]; exact r.sub a u q
    · obtain ⟨k1, u, k2⟩ := r.lg a l' q
      refine ⟨k1, ?_⟩
      by_cases z : a = p
      · subst z; exact ⟨o, upd_same⟩
      · exact ⟨u, by rw [upd_ne z]; exact k2⟩
    · have z : a ≠ p := fun z => by subst z; rw [hl] at q; cases q; exact ne rfl
      exact h.mono (fun _ _ q => q) (fun _ _ => rfl) (Nat.le_refl _) fun u q => by rw [upd_ne z]; exact q
    · rw [upd_ne (fun z => by subst z; rw [hl] at ql; cases ql)]; exact q
  cases a with
  | new c => cases e
  | slot j =>
    obtain ⟨en, q1, q2⟩ := Option.bind_eq_some_iff.mp e
    cases en with
    | fz d => cases q2
    | xn x => cases q2
    | ow c0 =>
      cases q2
      have q := entAt_eq q1
      obtain ⟨p, h1, h2, h3, h4, h5⟩ := r.slot j _ q
      have hi : σ[j]? = some (some v) := i
      rw [hi] at h1; cases h1
      refine ⟨p, rfl, h5, fun o c' hc hk => ?_⟩
      obtain ⟨g1, g2, g3, g4, g5⟩ := gen p _ h3 o
      refine ⟨⟨g1, g2, g3, ?_, fun m en hm => ?_, fun k cc hk' => ?_⟩, g5⟩
      · show σ.length = (s.env.set j _).length
        rw [List.length_set]; exact r.len
      · have hm1 : (s.env.set j (some (.ow c')))[m]? = some (some en) := hm
        by_cases z : j = m
        · subst z
          have hlt : j < s.env.length := (List.getElem?_eq_some_iff.mp q).1
          rw [List.getElem?_set_self hlt] at hm1
          cases hm1
          exact ⟨p, hi, h2, h3, hc h4, hk⟩
        · rw [List.getElem?_set_ne z] at hm1
          have hh := r.slot m en hm1
          cases en with
          | fz d => exact hh
          | xn x => exact xn_mono (S := S) (n := s.M.length) (H := H) (fun _ _ e => e) (fun _ _ => rfl) (Nat.le_refl _) rfl hh
          | ow c2 =>
            obtain ⟨a, k1, k2, k3, k4, k5⟩ := hh
            exact ⟨a, k1, k2, k3, k4, g4 k3 (fun w => by cases w; exact z rfl) k5⟩
      · obtain ⟨k1, k2⟩ := r.ids k cc hk'
        exact ⟨k1, g4 k1 (fun w => by cases w) k2⟩
  | val d =>
    cases d with
    | cid k =>
      have e1 : s.M[k]? = some c := e
      have i1 : Rp K S.G S.α s.M.length v (.cid k) := i
      cases i1
      obtain ⟨h3, h5⟩ := r.ids k c e1
      refine ⟨_, rfl, h5, fun o c' hc hk => ?_⟩
      obtain ⟨g1, g2, g3, g4, g5⟩ := gen _ _ h3 o
      have hl : (s.M.set k c').length = s.M.length := List.length_set
      refine ⟨⟨g1, g2, g3, r.len, fun m en hm => ?_, fun k' cc hk' => ?_⟩, by show Stp S s.M.length H S (s.M.set k c').length _; rw [hl]; exact g5⟩
      · have hh := r.slot m en hm
        show EntOk K ct H0 S (s.M.set k c').length σ _ m en
        rw [hl]
        cases en with
        | fz d => exact hh
        | xn x => exact xn_mono (S := S) (n := s.M.length) (H := H) (fun _ _ e => e) (fun _ _ => rfl) (Nat.le_refl _) rfl hh
        | ow c2 =>
          obtain ⟨a, k1, k2, k3, k4, k5⟩ := hh
          exact ⟨a, k1, k2, k3, k4, g4 k3 (fun w => by cases w) k5⟩
      · have hk1 : (s.M.set k c')[k']? = some cc := hk'
        show S.lab (S.α k') = some (.id k') ∧ CnOk K ct S (s.M.set k c').length _ (S.α k') cc
        rw [hl]
        by_cases z : k = k'
        · subst z
          have hlt : k < s.M.length := (List.getElem?_eq_some_iff.mp e1).1
          rw [List.getElem?_set_self hlt] at hk1
          cases hk1
          exact ⟨h3, hk⟩
        · rw [List.getElem?_set_ne z] at hk1
          obtain ⟨k1, k2⟩ := r.ids k' cc hk1
          exact ⟨k1, g4 k1 (fun w => by cases w; exact z rfl) k2⟩
    | _ => cases e
/-- a method of a list: the receiver is read, then the values -/
def JM (K : PySem.W.Frag) (ct : Ct) (H0 : Hp) (r : V → List V → Hp → VK → Prop) (f : Stt → AI → List D → Ro AI) : Prop := ∀ W S s σ H Hs x a vs ds Q, Rel K ct H0 S s σ H → ItOk K ct Hs S s σ H x a → RpL K S.G S.α s.M.length vs ds → Pst K ct H0 (RI K ct) W S s σ H Q (f s a ds) → r x vs H Q
def mBM (f : Stt → AI → List D → Ro AI) (mo : Mo AI) (ma : Mo (List D)) : Mo AI := fun s => (mo s).bind fun a s1 => match viewL s1 a with
  | some _ => (ma s1).bind fun ds s2 => f s2 a ds
  | none => .no
theorem ei_bm {r : V → List V → Hp → VK → Prop} {f : Stt → AI → List D → Ro AI} {to : TE} {t : TA} {mo : Mo AI} {ma : Mo (List D)} (hr : JM K ct H0 r f) (ho : Ei K ct H0 W to mo) (ha : EvL K ct H0 W t ma) : Ei K ct H0 W (tBM K "list" r to t) (mBM f mo ma) := fun S s σ H Q rel p =>
  ho S s σ H _ rel (Pst.bind bI p fun S1 s1 H1 x a st1 rel1 i1 p1 => by
    split at p1
    · rename_i l e
      obtain ⟨q, vs, rfl, h1, _⟩ := viewL_ok rel1 i1 e
      exact ⟨.inl ⟨rfl, vs, h1⟩, ha S1 s1 σ H1 _ rel1 (Pst.bind bI p1 fun S2 s2 H2 vs ds st2 rel2 i2 p2 => hr W S2 s2 σ H2 _ _ a vs ds Q rel2 (i1.step st2) i2 p2)⟩
    · exact False.elim p1)
def fApp (s : Stt) (a : AI) (ds : List D) : Ro AI := match ds, getC s a with
  | [d], some (.lst l) => if l.length < sizeLine then .ok (.val .non) (setC s a (.lst (l ++ [d]))) else .no
  | _, _ => .no
theorem Pst.mut {a : AI} {c' : Cn} {Q : VK} {H' : Hp} (p : Pst K ct H0 (RI K ct) W S s σ H Q (.ok (.val .non) (setC s a c'))) (h : Rel K ct H0 S (setC s a c') σ H' ∧ Stp S s.M.length H S (setC s a c').M.length H') : Q .non H' := p S .non H' h.2 h.1 .non
theorem jm_app : JM K ct H0 rAppend fApp := fun W S s σ H Hs x a vs ds Q rel i r p => by
  unfold fApp at p
  split at p
  · rename_i d l e
    split at p
    · rename_i hz
      obtain ⟨q, rfl, ⟨us, h1, h2⟩, h3⟩ := mut_ok rel i e
      cases r with
      | cons r1 r2 =>
        cases r2
        exact ⟨q, us, _, rfl, rfl, h1, by rw [h2.length]; exact hz, p.mut (h3 _ (.lst (l ++ [d])) (fun _ => rfl) ⟨_, upd_same, h2.append (.cons r1 .nil)⟩)⟩
    · exact False.elim p
  · exact False.elim p
def PstS (K : PySem.W.Frag) (ct : Ct) (H0 : Hp) (W : WX) (S : Sh) (s : Stt) (H : Hp) (Dn : Ends) : Rs → Prop
  | .nx s' => ∀ S' σ' H', Stp S s.M.length H S' s'.M.length H' → Rel K ct H0 S' s' σ' H' → Dn.nx σ' H'
  | .bk s' => ∀ S' σ' H', Stp S s.M.length H S' s'.M.length H' → Rel K ct H0 S' s' σ' H' → Dn.bk σ' H'
  | .ct s' => ∀ S' σ' H', Stp S s.M.length H S' s'.M.length H' → Rel K ct H0 S' s' σ' H' → Dn.ct σ' H'
  | .rt a s' => ∀ S' σ' v H', Stp S s.M.length H S' s'.M.length H' → Rel K ct H0 S' s' σ' H' → ItOk K ct H0 S' s' [] H' v a → Dn.rt v H'
  | .er x s' => ∀ S' σ' H' dd, Stp S s.M.length H S' s'.M.length H' → Rel K ct H0 S' s' σ' H' → XOk K S' s'.M.length H' x dd → W (.ref (ct x.cls)) dd σ' H'
  | .no => False
def Sv (K : PySem.W.Frag) (ct : Ct) (H0 : Hp) (W : WX) (t : TS) (m : Ms) : Prop := ∀ S s σ H Dn, Rel K ct H0 S s σ H → PstS K ct H0 W S s H Dn (m s) → t Dn σ H
theorem PstS.from {S1 : Sh} {s1 : Stt} {H1 : Hp} {Dn : Ends} {r : Rs} (h : PstS K ct H0 W S s H Dn r) (t : Stp S s.M.length H S1 s1.M.length H1) : PstS K ct H0 W S1 s1 H1 Dn r := by
  cases r with
  | nx s' => exact fun S' σ' H' st rel => h S' σ' H' (t.trans st) rel
  | bk s' => exact fun S' σ' H' st rel => h S' σ' H' (t.trans st) rel
  | ct s' => exact fun S' σ' H' st rel => h S' σ' H' (t.trans st) rel
  | rt a s' => exact fun S' σ' v H' st rel => h S' σ' v H' (t.trans st) rel
  | er x s' => exact fun S' σ' H' dd st rel => h S' σ' H' dd (t.trans st) rel
  | no => exact h
/-- an expression's result goes on to a statement's -/
def Ro.toS {α : Type} (r : Ro α) (f : α → Ms) : Rs := match r with
  | .ok a s => f a s
  | .er x s => .er x s
  | .no => .no
theorem PstS.bind {β α : Type} {R : RR β α} {Dn : Ends} {Q1 : β → Hp → Prop} {r : Ro α} {f : α → Ms} (h : PstS K ct H0 W S s H Dn (r.toS f))
    (k : ∀ S1 s1 H1 x a, Stp S s.M.length H S1 s1.M.length H1 → Rel K ct H0 S1 s1 σ H1 → R H S1 s1 σ H1 x a → PstS K ct H0 W S s H Dn (f a s1) → Q1 x H1) : Pst K ct H0 R W S s σ H Q1 r := by
  cases r with
  | ok a s' => exact fun S' x H' st rel q => k S' s' H' x a st rel q h
  | er x s' => exact fun S' H' dd st rel q => h S' σ H' dd st rel q
  | no => exact h
def mSeq (m1 m2 : Ms) : Ms := fun s => match m1 s with
  | .nx s1 => m2 s1
  | r => r
theorem sv_seq {t u : TS} {m1 m2 : Ms} (h1 : Sv K ct H0 W t m1) (h2 : Sv K ct H0 W u m2) : Sv K ct H0 W (tSeq t u) (mSeq m1 m2) := fun S s σ H Dn rel p => h1 S s σ H _ rel (by
  unfold mSeq at p
  cases q : m1 s with
  | nx s1 => rw [q] at p; exact fun S1 σ1 H1 st rel1 => h2 S1 s1 σ1 H1 Dn rel1 (PstS.from p st)
  | bk s1 => rw [q] at p; exact p
  | ct s1 => rw [q] at p; exact p
  | rt a s1 => rw [q] at p; exact p
  | er x s1 => rw [q] at p; exact p
  | no => rw [q] at p; exact p)
def mNext : Ms := fun s => .nx s
theorem sv_next : Sv K ct H0 W tNext mNext := fun S s σ H Dn rel p => p S σ H .refl rel
def mDrop (m : Mo AI) : Ms := fun s => (m s).toS fun _ s1 => .nx s1
theorem sv_drop {te : TE} {m : Mo AI} (h : Ei K ct H0 W te m) : Sv K ct H0 W (tDrop te) (mDrop m) := fun S s σ H Dn rel p => h S s σ H _ rel (PstS.bind p fun S1 s1 H1 x a st1 rel1 i1 p1 => p1 S1 σ H1 st1 rel1)
def mIfS (c : Mo Bool) (m1 m2 : Ms) : Ms := fun s => (c s).toS fun b s1 => if b = true then m1 s1 else m2 s1
theorem sv_if {c : TT} {t u : TS} {mc : Mo Bool} {m1 m2 : Ms} (hc : Et K ct H0 W c mc) (h1 : Sv K ct H0 W t m1) (h2 : Sv K ct H0 W u m2) : Sv K ct H0 W (tIfS c t u) (mIfS mc m1 m2) := fun S s σ H Dn rel p =>
  hc S s σ H _ rel (PstS.bind p fun S1 s1 H1 x a st1 rel1 i1 p1 => by
    cases (show x = a from i1)
    cases x with
    | true => rw [if_pos rfl] at p1 ⊢; exact h1 S1 s1 σ H1 Dn rel1 (PstS.from p1 st1)
    | false => rw [if_neg Bool.false_ne_true] at p1 ⊢; exact h2 S1 s1 σ H1 Dn rel1 (PstS.from p1 st1))
def Sh.un (S : Sh) (i : Nat) : Sh := ⟨S.G, S.α, fun a => if S.lab a = some (.slot i) then none else S.lab a⟩
theorem un_lab {i : Nat} {a : Addr} {l : Lab} (h : S.lab a = some l) (ne : l ≠ .slot i) : (S.un i).lab a = some l := by
  show (if S.lab a = some (.slot i) then none else S.lab a) = _
  rw [if_neg (fun z => by rw [h] at z; cases z; exact ne rfl)]; exact h
theorem un_of {i : Nat} {a : Addr} {l : Lab} (h : (S.un i).lab a = some l) : S.lab a = some l := by
  have h1 : (if S.lab a = some (.slot i) then none else S.lab a) = some l := h
  split at h1
  · cases h1
  · exact h1
theorem Stp.un {n : Nat} {i : Nat} : Stp S n H (S.un i) n H := ⟨fun _ _ e => e, Nat.le_refl _, fun _ _ => rfl, fun a o h l => ⟨h, by
  show (if S.lab a = some (.slot i) then none else S.lab a) = none
  split
  · rfl
  · exact l⟩, fun _ _ e => .inl e, fun _ h => h⟩
theorem cn_un {n i : Nat} {p : Addr} {c : Cn} (h : CnOk K ct S n H p c) : CnOk K ct (S.un i) n H p c := h.mono (fun _ _ e => e) (fun _ _ => rfl) (Nat.le_refl _) (fun _ e => e)
/-- slot i is given another value -/
theorem Rel.setFz {i : Nat} {v : V} {d : D} (r : Rel K ct H0 S s σ H) (h : Rp K S.G S.α s.M.length v d) : Rel K ct H0 (S.un i) ⟨s.env.set i (some (.fz d)), s.M⟩ (σ.set i (some v)) H := by
  refine ⟨r.sub, fun a l q => r.lg a l (un_of q), r.dom, by rw [List.length_set]; show _ = (s.env.set i _).length; rw [List.length_set]; exact r.len, fun j en q => ?_, fun k c q => ?_⟩
  · have q1 : (s.env.set i (some (.fz d)))[j]? = some (some en) := q
    by_cases z : i = j
    · subst z
      have hlt : i < s.env.length := by
        have := (List.getElem?_eq_some_iff.mp q1).1
        rw [List.length_set] at this; exact this
      rw [List.getElem?_set_self hlt] at q1
      cases q1
      exact ⟨v, List.getElem?_set_self (by rw [r.len]; exact hlt), h⟩
    · rw [List.getElem?_set_ne z] at q1
      have hh := r.slot j en q1
      cases en with
      | fz d' => obtain ⟨w, k1, k2⟩ := hh; exact ⟨w, by rw [List.getElem?_set_ne z]; exact k1, k2⟩
      | xn x => exact xn_mono (S := S) (n := s.M.length) (H := H) (fun _ _ e => e) (fun _ _ => rfl) (Nat.le_refl _) (List.getElem?_set_ne z) hh
      | ow c =>
        obtain ⟨p, k1, k2, k3, k4, k5⟩ := hh
        exact ⟨p, by rw [List.getElem?_set_ne z]; exact k1, k2, un_lab k3 (fun w => by cases w; exact z rfl), k4, cn_un k5⟩
  · obtain ⟨k1, k2⟩ := r.ids k c q
    exact ⟨un_lab k1 (fun w => by cases w), cn_un k2⟩
theorem Rel.setN {i : Nat} (r : Rel K ct H0 S s σ H) : Rel K ct H0 (S.un i) ⟨s.env.set i none, s.M⟩ σ H := by
  refine ⟨r.sub, fun a l q => r.lg a l (un_of q), r.dom, by show _ = (s.env.set i _).length; rw [List.length_set]; exact r.len, fun j en q => ?_, fun k c q => ?_⟩
  · have q1 : (s.env.set i none)[j]? = some (some en) := q
    by_cases z : i = j
    · subst z
      have hlt : i < s.env.length := by
        have := (List.getElem?_eq_some_iff.mp q1).1
        rw [List.length_set] at this; exact this
      rw [List.getElem?_set_self hlt] at q1
      cases q1
    · rw [List.getElem?_set_ne z] at q1
      have hh := r.slot j en q1
      cases en with
      | fz d' => exact hh
      | xn x => exact xn_mono (S := S) (n := s.M.length) (H := H) (fun _ _ e => e) (fun _ _ => rfl) (Nat.le_refl _) rfl hh
      | ow c =>
        obtain ⟨p, k1, k2, k3, k4, k5⟩ := hh
        exact ⟨p, k1, k2, un_lab k3 (fun w => by cases w; exact z rfl), k4, cn_un k5⟩
  · obtain ⟨k1, k2⟩ := r.ids k c q
    exact ⟨un_lab k1 (fun w => by cases w), cn_un k2⟩
def Sh.cl (S : Sh) (i : Nat) (p : Addr) : Sh := ⟨S.G, S.α, fun a => if a = p then some (.slot i) else if S.lab a = some (.slot i) then none else S.lab a⟩
theorem Rel.setOw {i : Nat} {p : Addr} {c : Cn} (r : Rel K ct H0 S s σ H) (h0 : H0 p = none) (hl : S.lab p = none) (hg : S.G p = none) (hc : c.isC = true) (h : CnOk K ct S s.M.length H p c) : Rel K ct H0 (S.cl i p) ⟨s.env.set i (some (.ow c)), s.M⟩ (σ.set i (some (.ref p))) H := by
  have lb : ∀ {a : Addr} {l : Lab}, S.lab a = some l → l ≠ .slot i → (S.cl i p).lab a = some l := fun {a l} hh ne => by
    show (if a = p then _ else if S.lab a = some (.slot i) then none else S.lab a) = _
    rw [if_neg (fun z => by subst z; rw [hl] at hh; cases hh), if_neg (fun z => by rw [hh] at z; cases z; exact ne rfl)]; exact hh
  have cn : ∀ {a : Addr} {c : Cn}, CnOk K ct S s.M.length H a c → CnOk K ct (S.cl i p) s.M.length H a c := fun {a c} h => h.mono (fun _ _ e => e) (fun _ _ => rfl) (Nat.le_refl _) (fun _ e => e)
  refine ⟨r.sub, fun a l q => ?_, r.dom, by rw [List.length_set]; show _ = (s.env.set i _).length; rw [List.length_set]; exact r.len, fun j en q => ?_, fun k c' q => ?_⟩
  · have q1 : (if a = p then some (Lab.slot i) else if S.lab a = some (.slot i) then none else S.lab a) = some l := q
    by_cases z : a = p
    · subst z; exact ⟨hg, h.some⟩
    · rw [if_neg z] at q1
      split at q1
      · cases q1
      · exact r.lg a l q1
  · have q1 : (s.env.set i (some (.ow c)))[j]? = some (some en) := q
    by_cases z : i = j
    · subst z
      have hlt : i < s.env.length := by
        have := (List.getElem?_eq_some_iff.mp q1).1
        rw [List.length_set] at this; exact this
      rw [List.getElem?_set_self hlt] at q1
      cases q1
      exact ⟨p, List.getElem?_set_self (by rw [r.len]; exact hlt), h0, if_pos rfl, hc, cn h⟩
    · rw [List.getElem?_set_ne z] at q1
      have hh := r.slot j en q1
      cases en with
      | fz d' => obtain ⟨w, k1, k2⟩ := hh; exact ⟨w, by rw [List.getElem?_set_ne z]; exact k1, k2⟩
      | xn x => exact xn_mono (S := S) (n := s.M.length) (H := H) (fun _ _ e => e) (fun _ _ => rfl) (Nat.le_refl _) (List.getElem?_set_ne z) hh
      | ow c' =>
        obtain ⟨a, k1, k2, k3, k4, k5⟩ := hh
        exact ⟨a, by rw [List.getElem?_set_ne z]; exact k1, k2, lb k3 (fun w => by cases w; exact z rfl), k4, cn k5⟩
  · obtain ⟨k1, k2⟩ := r.ids k c' q
    exact ⟨lb k1 (fun w => by cases w), cn k2⟩
theorem Stp.claim {S' : Sh} {n n' i : Nat} {H' : Hp} {p : Addr} (t : Stp S n H S' n' H') (hp : H p = none) : Stp S n H (S'.cl i p) n' H' where
  g := t.g
  le := t.le
  al := t.al
  fr := fun a o h l => by
    obtain ⟨h1, h2⟩ := t.fr a o h l
    refine ⟨h1, ?_⟩
    show (if a = p then _ else if S'.lab a = some (.slot i) then none else S'.lab a) = none
    rw [if_neg (ne_of_none h hp)]
    split
    · rfl
    · exact h2
  gn := t.gn
  dom := t.dom
def asg (i : Nat) (a : AI) : Ms := fun s => match a with
  | .val d => .nx ⟨s.env.set i (some (.fz d)), s.M⟩
  | .new c => .nx ⟨s.env.set i (some (.ow c)), s.M⟩
  | .slot j => (toV (.slot j) s).toS fun d s1 => .nx ⟨s1.env.set i (some (.fz d)), s1.M⟩
def mAsg (i : Nat) (m : Mo AI) : Ms := fun s => (m s).toS (asg i)
theorem sv_asg {i : Nat} {te : TE} {m : Mo AI} (h : Ei K ct H0 W te m) : Sv K ct H0 W (tAsg te (gName i)) (mAsg i m) := fun S s σ H Dn rel p =>
  h S s σ H _ rel (PstS.bind p fun S1 s1 H1 x a st1 rel1 i1 p1 => by
    show Dn.nx (σ.set i (some x)) H1
    cases a with
    | val d => exact p1 (S1.un i) _ H1 (st1.trans .un) (rel1.setFz i1)
    | new c =>
      obtain ⟨q, rfl, h1, h2, h3, h4, h5⟩ := i1
      exact p1 (S1.cl i q) _ H1 (st1.claim h1) (rel1.setOw (rel.dom q h1) h2 h3 h4 h5)
    | slot j =>
      have hi : σ[j]? = some (some x) := i1
      have p1 : PstS K ct H0 W S s H Dn ((match entAt s1 j with | some (.ow c) => Ro.ok c.toD ⟨s1.env.set j (some (.fz c.toD)), s1.M⟩ | some (.fz d) => Ro.ok d s1 | _ => Ro.no).toS fun d s1 => .nx ⟨s1.env.set i (some (.fz d)), s1.M⟩) := p1
      cases qe : entAt s1 j with
      | none => rw [qe] at p1; exact False.elim p1
      | some en =>
        rw [qe] at p1
        cases en with
        | fz d =>
          obtain ⟨v', k1, k2⟩ := rel1.slot j _ (entAt_eq qe)
          rw [hi] at k1; cases k1
          exact p1 (S1.un i) _ H1 (st1.trans .un) (rel1.setFz k2)
        | xn x => exact False.elim p1
        | ow c =>
          obtain ⟨S2, v', k1, st2, rel2, k2⟩ := frz_slot rel1 (entAt_eq qe)
          rw [hi] at k1; cases k1
          exact p1 (S2.un i) _ H1 ((st1.trans st2).trans .un) (rel2.setFz k2))
def ret (a : AI) : Ms := fun s => match a with
  | .val d => .rt (.val d) s
  | .new c => .rt (.new c) s
  | .slot i => match entAt s i with
    | some (.ow c) => .rt (.new c) ⟨s.env.set i none, s.M⟩
    | some (.fz d) => .rt (.val d) s
    | _ => .no
def mRet (m : Mo AI) : Ms := fun s => (m s).toS ret
theorem sv_ret {te : TE} {m : Mo AI} (h : Ei K ct H0 W te m) : Sv K ct H0 W (tRet te) (mRet m) := fun S s σ H Dn rel p =>
  h S s σ H _ rel (PstS.bind p fun S1 s1 H1 x a st1 rel1 i1 p1 => by
    cases a with
    | val d => exact p1 S1 σ x H1 st1 rel1 i1
    | new c =>
      obtain ⟨q, rfl, h1, h2, h3, h4, h5⟩ := i1
      exact p1 S1 σ _ H1 st1 rel1 ⟨q, rfl, rel.dom q h1, h2, h3, h4, h5⟩
    | slot j =>
      have hi : σ[j]? = some (some x) := i1
      have p1 : PstS K ct H0 W S s H Dn (match entAt s1 j with | some (.ow c) => .rt (.new c) ⟨s1.env.set j none, s1.M⟩ | some (.fz d) => .rt (.val d) s1 | _ => .no) := p1
      cases qe : entAt s1 j with
      | none => rw [qe] at p1; exact False.elim p1
      | some en =>
        rw [qe] at p1
        cases en with
        | fz d =>
          obtain ⟨v', k1, k2⟩ := rel1.slot j _ (entAt_eq qe)
          rw [hi] at k1; cases k1
          exact p1 S1 σ x H1 st1 rel1 k2
        | xn x => exact False.elim p1
        | ow c =>
          obtain ⟨q, k1, k2, k3, k4, k5⟩ := rel1.slot j _ (entAt_eq qe)
          rw [hi] at k1; cases k1
          refine p1 (S1.un j) σ _ H1 (st1.trans .un) rel1.setN ⟨q, rfl, k2, ?_, (rel1.lg q _ k3).1, k4, cn_un k5⟩
          show (if S1.lab q = some (.slot j) then none else S1.lab q) = none
          rw [if_pos k3])
def mRetN : Ms := fun s => .rt (.val .non) s
end
end Y
namespace Y
open PySem L2 Z
abbrev Tg := D → Stt → Option Stt
abbrev Tgs := List D → Stt → Option Stt
/-- what of the slots is left when some are wiped -/
def Keeps (js : List Nat) (σ σ' : St) : Prop := ∀ ws : List Nat, (∀ j ∈ js, j ∈ ws) → wipe σ' ws = wipe σ ws
theorem wipe_in {σ : St} {i : Nat} : ∀ {vs : List Nat}, i ∈ vs → i < σ.length → (wipe σ vs)[i]? = some none
  | v :: vs, h, hl => by
    show ((wipe σ vs).set v none)[i]? = _
    by_cases e : v = i
    · subst e; rw [List.getElem?_set_self (by rw [wipe_length]; exact hl)]
    · rw [List.getElem?_set_ne e]
      rcases List.mem_cons.mp h with z | z
      · exact absurd z.symm e
      · exact wipe_in z hl
theorem keeps_set {σ : St} {i : Nat} {x : Option V} : Keeps [i] σ (σ.set i x) := fun ws h => by
  refine List.ext_getElem? fun k => ?_
  by_cases hk : k ∈ ws
  · by_cases hl : k < σ.length
    · rw [wipe_in hk (by rw [List.length_set]; exact hl), wipe_in hk hl]
    · rw [List.getElem?_eq_none_iff.mpr (by rw [wipe_length, List.length_set]; omega), List.getElem?_eq_none_iff.mpr (by rw [wipe_length]; omega)]
  · rw [wipe_out hk, wipe_out hk]
    have : i ≠ k := fun z => hk (z ▸ h i (by simp))
    rw [List.getElem?_set_ne this]
theorem keeps_refl {σ : St} {js : List Nat} : Keeps js σ σ := fun _ _ => rfl
theorem Keeps.trans {σ σ1 σ2 : St} {js ks : List Nat} (a : Keeps js σ σ1) (b : Keeps ks σ1 σ2) : Keeps (js ++ ks) σ σ2 := fun ws h => (b ws fun j hj => h j (by simp [hj])).trans (a ws fun j hj => h j (by simp [hj]))
section
variable {K : PySem.W.Frag} {ct : Ct} {H0 : Hp} {W : WX} {S : Sh} {s : Stt} {σ : St} {H : Hp}
def Sg (K : PySem.W.Frag) (ct : Ct) (H0 : Hp) (js : List Nat) (g : TG) (f : Tg) : Prop := ∀ S s σ H v d s' (Q : St → Hp → Prop), Rel K ct H0 S s σ H → Rp K S.G S.α s.M.length v d → f d s = some s' →
  (∀ S' σ', Stp S s.M.length H S' s'.M.length H → Rel K ct H0 S' s' σ' H → Keeps js σ σ' → S'.G = S.G → S'.α = S.α → Q σ' H) → g v σ H Q
def Sgs (K : PySem.W.Frag) (ct : Ct) (H0 : Hp) (js : List Nat) (g : TGs) (f : Tgs) : Prop := ∀ S s σ H vs ds s' (Q : St → Hp → Prop), Rel K ct H0 S s σ H → RpL K S.G S.α s.M.length vs ds → f ds s = some s' →
  (∀ S' σ', Stp S s.M.length H S' s'.M.length H → Rel K ct H0 S' s' σ' H → Keeps js σ σ' → S'.G = S.G → S'.α = S.α → Q σ' H) → g vs σ H Q
def tgN (i : Nat) : Tg := fun d s => some ⟨s.env.set i (some (.fz d)), s.M⟩
theorem sg_name {i : Nat} : Sg K ct H0 [i] (gName i) (tgN i) := fun S s σ H v d s' Q rel r e q => by
  cases e
  exact q (S.un i) _ .un (rel.setFz r) keeps_set rfl rfl
def tgNil : Tgs := fun ds s => match ds with
  | [] => some s
  | _ => none
def tgCons (f : Tg) (r : Tgs) : Tgs := fun ds s => match ds with
  | [] => none
  | d :: ds => (f d s).bind fun s1 => r ds s1
def tgT (n : Nat) (f : Tgs) : Tg := fun d s => match tupOf d with
  | some l => if l.length = n then f l s else none
  | none => none
theorem sgs_nil : Sgs K ct H0 [] gNil tgNil := fun S s σ H vs ds s' Q rel r e q => by
  cases r with
  | nil => cases e; exact ⟨rfl, q S σ .refl rel keeps_refl rfl rfl⟩
  | cons a b => cases e
theorem sgs_cons {js ks : List Nat} {g : TG} {gs : TGs} {f : Tg} {r : Tgs} (h1 : Sg K ct H0 js g f) (h2 : Sgs K ct H0 ks gs r) : Sgs K ct H0 (js ++ ks) (gCons g gs) (tgCons f r) := fun S s σ H vs ds s' Q rel rr e q => by
  cases rr with
  | nil => cases e
  | cons a b =>
    obtain ⟨s1, e1, e2⟩ := Option.bind_eq_some_iff.mp e
    refine ⟨_, _, rfl, h1 S s σ H _ _ s1 _ rel a e1 fun S1 σ1 st1 rel1 k1 g1 a1 => ?_⟩
    exact h2 S1 s1 σ1 H _ _ s' _ rel1 (b.step st1) e2 fun S2 σ2 st2 rel2 k2 g2 a2 => q S2 σ2 (st1.trans st2) rel2 (k1.trans k2) (g2.trans g1) (a2.trans a1)
theorem sg_tup {js : List Nat} {n : Nat} {gs : TGs} {f : Tgs} (h : Sgs K ct H0 js gs f) : Sg K ct H0 js (gTup K n gs) (tgT n f) := fun S s σ H v d s' Q rel r e q => by
  unfold tgT at e
  split at e
  · rename_i l el
    split at e
    · rename_i hl
      obtain ⟨p, vs, rfl, k1, k2⟩ := viewT_ok (Hs := H) (a := .val d) (v := v) rel r (by unfold viewT look; exact el)
      exact ⟨p, vs, rfl, k1, by rw [k2.length]; exact hl, h S s σ H vs l s' Q rel k2 e q⟩
    · cases e
  · cases e
def mAsgT (g : Tg) (m : Mo AI) : Ms := fun s => (mV m s).toS fun d s1 => match g d s1 with
  | some s2 => .nx s2
  | none => .no
theorem sv_asgT {js : List Nat} {n : Nat} {gs : TGs} {f : Tg} {te : TE} {m : Mo AI} (hg : Sg K ct H0 js (gTup K n gs) f) (h : Ei K ct H0 W te m) : Sv K ct H0 W (tAsg te (gTup K n gs)) (mAsgT f m) := fun S s σ H Dn rel p =>
  ev_of h S s σ H _ rel (PstS.bind p fun S1 s1 H1 x a st1 rel1 i1 p1 => by
    show gTup K n gs x σ H1 Dn.nx
    split at p1
    · rename_i s2 e
      exact hg S1 s1 σ H1 x a s2 _ rel1 i1 e fun S2 σ2 st2 rel2 _ _ _ => p1 S2 σ2 H1 (st1.trans st2) rel2
    · exact False.elim p1)
structure Im where
  xs : List D
  ck : Option (Nat × Cn)
def chk : Option (Nat × Cn) → Stt → Prop
  | none, _ => True
  | some (k, c), s => s.M[k]? = some c
def Wk (K : PySem.W.Frag) (ct : Ct) (H0 : Hp) (S : Sh) (n : Nat) (H : Hp) (J : It) (im : Im) : Prop := ∀ S1 s1 σ1 H1, Stp S n H S1 s1.M.length H1 → Rel K ct H0 S1 s1 σ1 H1 → chk im.ck s1 →
  (∀ i d, im.xs[i]? = some d → J.go i H1 ∧ ∀ x H2, J.yld i H1 x H2 → ∃ S2, Stp S1 s1.M.length H1 S2 s1.M.length H2 ∧ Rel K ct H0 S2 s1 σ1 H2 ∧ Rp K S2.G S2.α s1.M.length x d) ∧ J.stop im.xs.length H1
def RW (K : PySem.W.Frag) (ct : Ct) (H0 : Hp) : RR It Im := fun _ S s _ H J im => Wk K ct H0 S s.M.length H J im
abbrev Jw (K : PySem.W.Frag) (ct : Ct) (H0 : Hp) (W : WX) (wi : TI) (m : Mo Im) : Prop := Jd K ct H0 (RW K ct H0) W wi m
theorem bW : Bck (RW K ct H0) := fun _ _ _ _ _ _ _ _ _ h => h
def rng (lo : Int) (n : Nat) : List D := (List.range n).map fun i => .int (lo + (i : Nat))
theorem wk_range {lo : Int} {n m : Nat} : Wk K ct H0 S m H (Itr lo n) ⟨rng lo n, none⟩ := fun S1 s1 σ1 H1 st rel _ => by
  refine ⟨fun i d e => ?_, ?_⟩
  · unfold rng at e
    rw [List.getElem?_map] at e
    obtain ⟨j, e1, rfl⟩ := Option.map_eq_some_iff.mp e
    have hj := (List.getElem?_eq_some_iff.mp e1)
    obtain ⟨hlt, ej⟩ := hj
    rw [List.getElem_range] at ej
    rw [List.length_range] at hlt
    subst ej
    refine ⟨hlt, fun x H2 h => ?_⟩
    obtain ⟨rfl, rfl⟩ := h
    exact ⟨S1, .refl, rel, .int _⟩
  · show n ≤ (rng lo n).length
    unfold rng; rw [List.length_map, List.length_range]; exact Nat.le_refl _
/-- the bounds of a range; decided classically, or whnf runs 2 ^ 62 in unary -/
def CRg1 (n : Int) : Prop := -(2 ^ 62) ≤ n ∧ n < 2 ^ 62
def CRg2 (i j : Int) : Prop := -(2 ^ 62) ≤ i ∧ i < 2 ^ 62 ∧ -(2 ^ 62) ≤ j ∧ j < 2 ^ 62
open Classical in
noncomputable def mRng1 (m : Mo (List AI)) : Mo Im := fun s => (m s).bind fun as s1 => match as with
  | [.val (.int n)] => if CRg1 n then .ok ⟨rng 0 n.toNat, none⟩ s1 else .no
  | _ => .no
theorem jw_rng1 {ta : TA} {m : Mo (List AI)} (h : EaL K ct H0 W ta m) : Jw K ct H0 W (iRng1 ta) (mRng1 m) := fun S s σ H Q rel p =>
  h S s σ H _ rel (Pst.bind bW p fun S1 s1 H1 x a st1 rel1 i1 p1 => by
    split at p1
    · rename_i n
      obtain ⟨v, rfl, k⟩ := as1 i1
      cases rp_int k
      split at p1
      · rename_i hz
        exact ⟨n, rfl, hz.1, hz.2, p1 S1 _ H1 .refl rel1 wk_range⟩
      · exact False.elim p1
    · exact False.elim p1)
open Classical in
noncomputable def mRng2 (m : Mo (List AI)) : Mo Im := fun s => (m s).bind fun as s1 => match as with
  | [.val (.int i), .val (.int j)] => if CRg2 i j then .ok ⟨rng i (j - i).toNat, none⟩ s1 else .no
  | _ => .no
theorem jw_rng2 {ta : TA} {m : Mo (List AI)} (h : EaL K ct H0 W ta m) : Jw K ct H0 W (iRng2 ta) (mRng2 m) := fun S s σ H Q rel p =>
  h S s σ H _ rel (Pst.bind bW p fun S1 s1 H1 x a st1 rel1 i1 p1 => by
    split at p1
    · rename_i i j
      obtain ⟨v, w, rfl, k1, k2⟩ := as2 i1
      cases rp_int k1; cases rp_int k2
      split at p1
      · rename_i hz
        exact ⟨i, j, rfl, hz, p1 S1 _ H1 .refl rel1 wk_range⟩
      · exact False.elim p1
    · exact False.elim p1)
def rngC (lo c : Int) (n : Nat) : List D := (List.range n).map fun i => .int (lo + ((i : Nat) : Int) * c)
theorem wk_rngC {lo c : Int} {n m : Nat} : Wk K ct H0 S m H (Itc lo c n) ⟨rngC lo c n, none⟩ := fun S1 s1 σ1 H1 st rel _ => by
  refine ⟨fun i d e => ?_, ?_⟩
  · unfold rngC at e
    rw [List.getElem?_map] at e
    obtain ⟨j, e1, rfl⟩ := Option.map_eq_some_iff.mp e
    obtain ⟨hlt, ej⟩ := List.getElem?_eq_some_iff.mp e1
    rw [List.getElem_range] at ej
    rw [List.length_range] at hlt
    subst ej
    refine ⟨hlt, fun x H2 h => ?_⟩
    obtain ⟨rfl, rfl⟩ := h
    exact ⟨S1, .refl, rel, .int _⟩
  · show n ≤ (rngC lo c n).length
    unfold rngC; rw [List.length_map, List.length_range]; exact Nat.le_refl _
open Classical in
noncomputable def mRng3 (m : Mo (List AI)) : Mo Im := fun s => (m s).bind fun as s1 => match as with
  | [.val (.int i), .val (.int j), .val (.int c)] => if RgC i j c (Builtin.Range.rangeSize i j c).toNat then .ok ⟨rngC i c (Builtin.Range.rangeSize i j c).toNat, none⟩ s1 else .no
  | _ => .no
theorem as3 {Hs : Hp} {vs : List V} {a b c : AI} (h : AsOk K ct Hs S s σ H vs [a, b, c]) : ∃ v w u, vs = [v, w, u] ∧ ItOk K ct Hs S s σ H v a ∧ ItOk K ct Hs S s σ H w b ∧ ItOk K ct Hs S s σ H u c := by
  cases h with | cons i r => cases r with | cons j r => cases r with | cons k r => cases r; exact ⟨_, _, _, rfl, i, j, k⟩
theorem jw_rng3 {ta : TA} {m : Mo (List AI)} (h : EaL K ct H0 W ta m) : Jw K ct H0 W (iRng3 ta) (mRng3 m) := fun S s σ H Q rel p =>
  h S s σ H _ rel (Pst.bind bW p fun S1 s1 H1 x a st1 rel1 i1 p1 => by
    split at p1
    · rename_i i j c
      obtain ⟨v, w, u, rfl, k1, k2, k3⟩ := as3 i1
      cases rp_int k1; cases rp_int k2; cases rp_int k3
      split at p1
      · rename_i hz
        exact ⟨i, j, c, _, rfl, hz, p1 S1 _ H1 .refl rel1 wk_rngC⟩
      · exact False.elim p1
    · exact False.elim p1)
/-- a list's value, walked -/
def ckOf : D → List D → Option (Nat × Cn)
  | .cid k, l => some (k, .lst l)
  | _, _ => none
theorem list_at {v : V} {d : D} {l : List D} {n : Nat} (rel : Rel K ct H0 S s σ H) (r : Rp K S.G S.α s.M.length v d) (e : listOf s.M d = some l) : ∃ p, v = .ref p ∧ ∀ S1 s1 σ1 H1, Stp S s.M.length H S1 s1.M.length H1 → Rel K ct H0 S1 s1 σ1 H1 → chk (ckOf d l) s1 →
    ∃ vs, SqL K H1 p vs ∧ RpL K S1.G S1.α s1.M.length vs l := by
  cases d with
  | lst l' => cases e; cases r with | lst h1 h2 => exact ⟨_, rfl, fun S1 s1 σ1 H1 st rel1 _ => ⟨_, .of (uL' (rel1.sub _ _ (st.g _ _ h1))), h2.step st⟩⟩
  | clst l' => cases e; cases r with | clst h1 h2 => exact ⟨_, rfl, fun S1 s1 σ1 H1 st rel1 _ => ⟨_, uSqL (rel1.sub.seq (st.g.seq h1)), h2.step st⟩⟩
  | cid k =>
    cases r with
    | cid hk =>
      refine ⟨_, rfl, fun S1 s1 σ1 H1 st rel1 c => ?_⟩
      have c1 : s1.M[k]? = some (.lst l) := c
      obtain ⟨vs, h1, h2⟩ := (rel1.ids k _ c1).2
      rw [st.al k hk] at h1
      exact ⟨vs, .of h1, h2⟩
  | _ => cases e
def mWL (m : Mo AI) : Mo Im := fun s => (mV m s).bind fun d s1 => match listOf s1.M d with
  | some l => .ok ⟨l, ckOf d l⟩ s1
  | none => .no
theorem jw_list {te : TE} {m : Mo AI} (h : Ei K ct H0 W te m) : Jw K ct H0 W (iList K te) (mWL m) := fun S s σ H Q rel p =>
  ev_of h S s σ H _ rel (Pst.bind bW p fun S1 s1 H1 x a st1 rel1 i1 p1 => by
    split at p1
    · rename_i l e
      have i1' : Rp K S1.G S1.α s1.M.length x a := i1
      have hv : viewL s1 (.val a) = some l := e
      obtain ⟨q0, vs0, e0, k1, _⟩ := viewL_ok (Hs := H) (a := .val a) rel1 i1' hv
      obtain ⟨q, rfl, k⟩ := list_at (n := 0) rel1 i1' e
      have e1 : q0 = q := by injection e0 with h; exact h.symm
      rw [e1] at k1
      refine ⟨q, rfl, ⟨vs0, k1⟩, p1 S1 _ H1 .refl rel1 fun S2 s2 σ2 H2 st2 rel2 c => ?_⟩
      obtain ⟨vs, h1, h2⟩ := k S2 s2 σ2 H2 st2 rel2 c
      refine ⟨fun i d e => ?_, ⟨vs, h1, by rw [h2.length]; exact Nat.le_refl _⟩⟩
      obtain ⟨v, e1, e2⟩ := h2.get e
      refine ⟨⟨vs, v, h1, e1⟩, fun x H3 hy => ?_⟩
      obtain ⟨rfl, hy⟩ := hy
      have := hy vs h1
      rw [e1] at this; cases this
      exact ⟨S2, .refl, rel2, e2⟩
    · exact False.elim p1)
def mWT (m : Mo AI) : Mo Im := fun s => (mV m s).bind fun d s1 => match tupOf d with
  | some l => .ok ⟨l, none⟩ s1
  | none => .no
def enumL (l : List D) : List D := l.zipIdx.map fun p => .tup [.int ((p.2 : Nat) : Int), p.1]
def mWE (m : Mo (List D)) : Mo Im := fun s => (m s).bind fun ds s1 => match ds with
  | [d] => match listOf s1.M d with
    | some l => .ok ⟨enumL l, ckOf d l⟩ s1
    | none => .no
  | _ => .no
/-- a pair made by an iterator -/
theorem new_tup {vs : List V} {l : List D} {q : Addr} (rel : Rel K ct H0 S s σ H) (hp : H q = none) (h : RpL K S.G S.α s.M.length vs l) : ∃ S2, Stp S s.M.length H S2 s.M.length (upd H q (.tup vs)) ∧ Rel K ct H0 S2 s σ (upd H q (.tup vs)) ∧ Rp K S2.G S2.α s.M.length (.ref q) (.tup l) := by
  have hg := rel.gN hp
  refine ⟨S.frz q (.tup vs), (Stp.new rel hp).frzNew hp hg, (rel.new hp).frz (uP upd_same) (rel.labN hp) hg, ?_⟩
  exact .tup upd_same (h.mono (fun a u e => by show upd S.G q _ a = _; rw [upd_ne (ne_of_none e hg)]; exact e) (fun _ _ => rfl) (Nat.le_refl _))
theorem jw_enum {ta : TA} {m : Mo (List D)} (h : EvL K ct H0 W ta m) : Jw K ct H0 W (iEnum K ta) (mWE m) := fun S s σ H Q rel p =>
  h S s σ H _ rel (Pst.bind bW p fun S1 s1 H1 x a st1 rel1 i1 p1 => by
    split at p1
    · rename_i d
      split at p1
      · rename_i l e
        cases i1 with
        | cons i1' r =>
          cases r
          have hv : viewL s1 (.val d) = some l := e
          obtain ⟨q0, vs0, e0, k1, _⟩ := viewL_ok (Hs := H) (a := .val d) rel1 i1' hv
          obtain ⟨q, rfl, k⟩ := list_at (n := 0) rel1 i1' e
          have e1 : q0 = q := by injection e0 with h; exact h.symm
          rw [e1] at k1
          refine ⟨q, vs0, rfl, k1, p1 S1 _ H1 .refl rel1 fun S2 s2 σ2 H2 st2 rel2 c => ?_⟩
          obtain ⟨vs, h1, h2⟩ := k S2 s2 σ2 H2 st2 rel2 c
          refine ⟨fun i d e => ?_, ⟨vs, h1, by rw [h2.length]; show _ ≤ (enumL l).length; unfold enumL; rw [List.length_map, List.length_zipIdx]; exact Nat.le_refl _⟩⟩
          have e' : ((l.zipIdx).map fun p => D.tup [.int ((p.2 : Nat) : Int), p.1])[i]? = some d := e
          rw [List.getElem?_map, List.getElem?_zipIdx] at e'
          obtain ⟨pr, e2, rfl⟩ := Option.map_eq_some_iff.mp e'
          obtain ⟨y, e3, rfl⟩ := Option.map_eq_some_iff.mp e2
          obtain ⟨v, e4, e5⟩ := h2.get e3
          refine ⟨⟨vs, v, h1, e4⟩, fun x H3 hy => ?_⟩
          obtain ⟨T, x0, rfl, hT, rfl, hx⟩ := hy
          have := hx vs h1
          rw [e4] at this; cases this
          rw [Nat.zero_add]
          exact new_tup rel2 hT (.cons (.int _) (.cons e5 .nil))
      · exact False.elim p1
    · exact False.elim p1)
def zipL (l l' : List D) : List D := (l.zip l').map fun p => .tup [p.1, p.2]
/-- only what is frozen is walked two by two -/
def mWZ (m : Mo (List D)) : Mo Im := fun s => (m s).bind fun ds s1 => match ds with
  | [.lst l, .lst l'] => .ok ⟨zipL l l', none⟩ s1
  | [.lst l, .clst l'] => .ok ⟨zipL l l', none⟩ s1
  | [.clst l, .lst l'] => .ok ⟨zipL l l', none⟩ s1
  | _ => .no
def strL (x : Str) : List D := x.cps.toList.map fun c => .str ⟨#[c]⟩
def mWS (m : Mo AI) : Mo Im := fun s => (m s).bind fun a s1 => match a with
  | .val (.str x) => .ok ⟨strL x, none⟩ s1
  | _ => .no
theorem jw_str {te : TE} {m : Mo AI} (h : Ei K ct H0 W te m) : Jw K ct H0 W (iStr te) (mWS m) := fun S s σ H Q rel p =>
  h S s σ H _ rel (Pst.bind bW p fun S1 s1 H1 x a st1 rel1 i1 p1 => by
    split at p1
    · rename_i z
      cases rp_str i1
      refine ⟨z, rfl, p1 S1 _ H1 .refl rel1 fun S2 s2 σ2 H2 st2 rel2 c => ?_⟩
      refine ⟨fun i d e => ?_, ?_⟩
      · have e0 : (z.cps.toList.map fun c => D.str ⟨#[c]⟩)[i]? = some d := e
        rw [List.getElem?_map] at e0
        obtain ⟨y, e2, rfl⟩ := Option.map_eq_some_iff.mp e0
        have e3 : z.cps[i]? = some y := by rw [← Array.getElem?_toList]; exact e2
        refine ⟨(Array.getElem?_eq_some_iff.mp e3).1, fun x H3 hy => ?_⟩
        obtain ⟨rfl, c, hc, rfl⟩ := hy
        rw [e3] at hc; cases hc
        exact ⟨S2, .refl, rel2, .str _⟩
      · show z.cps.size ≤ (strL z).length
        unfold strL; rw [List.length_map, Array.length_toList]; exact Nat.le_refl _
    · exact False.elim p1)
open Classical in
noncomputable def forN (g : Tg) (b : Ms) (ck : Option (Nat × Cn)) : List D → Ms
  | [], s => if chk ck s then .nx s else .no
  | x :: xs, s => if chk ck s then (match g x s with
    | none => .no
    | some s1 => match b s1 with
      | .nx s2 => forN g b ck xs s2
      | .ct s2 => forN g b ck xs s2
      | .bk s2 => .nx s2
      | .rt a s2 => .rt a s2
      | .er x s2 => .er x s2
      | .no => .no) else .no
noncomputable def mFor (mi : Mo Im) (g : Tg) (b : Ms) : Ms := fun s => (mi s).toS fun im s1 => forN g b im.ck im.xs s1
theorem sv_for {js : List Nat} {wi : TI} {g : TG} {tb : TS} {mi : Mo Im} {f : Tg} {b : Ms} (hi : Jw K ct H0 W wi mi) (hg : Sg K ct H0 js g f) (hb : Sv K ct H0 W tb b) : Sv K ct H0 W (tFor wi g tb) (mFor mi f b) := fun S s σ H Dn rel p =>
  hi S s σ H _ rel (PstS.bind p fun S1 s1 H1 J im st1 rel1 wk p1 => by
    have p1 := PstS.from p1 st1
    generalize hR : forN f b im.ck im.xs s1 = R at p1
    refine ⟨fun i m σ' H' => m = im.xs.length - i ∧ ∃ S' s', Stp S1 s1.M.length H1 S' s'.M.length H' ∧ Rel K ct H0 S' s' σ' H' ∧ i ≤ im.xs.length ∧ forN f b im.ck (im.xs.drop i) s' = R, ⟨im.xs.length, rfl, S1, s1, .refl, rel1, Nat.zero_le _, hR⟩, ?_⟩
    rintro i m σ' H' ⟨rfl, S', s', st', rel', hi', hr⟩
    have nno : R ≠ .no := fun z => by rw [z] at p1; exact p1
    by_cases hlt : i < im.xs.length
    · have e := List.drop_eq_getElem_cons hlt
      rw [e] at hr
      have hx : im.xs[i]? = some im.xs[i] := List.getElem?_eq_getElem hlt
      generalize im.xs[i] = d at e hr hx
      unfold forN at hr
      have hc : chk im.ck s' := Classical.byContradiction fun z => by rw [if_neg z] at hr; exact nno hr.symm
      rw [if_pos hc] at hr
      obtain ⟨go, yl⟩ := (wk S' s' σ' H' st' rel' hc).1 i d hx
      refine .inr ⟨go, fun σ2 H2 => ∃ S2 s2, Stp S1 s1.M.length H1 S2 s2.M.length H2 ∧ Rel K ct H0 S2 s2 σ2 H2 ∧ forN f b im.ck (im.xs.drop (i + 1)) s2 = R, ?_, ?_⟩
      · rintro σ2 H2 ⟨S2, s2, k1, k2, k3⟩
        exact ⟨im.xs.length - (i + 1), by omega, rfl, S2, s2, k1, k2, hlt, k3⟩
      · intro x H2 hy
        obtain ⟨S2, st2, rel2, rp2⟩ := yl x H2 hy
        cases hs : f d s' with
        | none => rw [hs] at hr; exact absurd hr.symm nno
        | some s2 =>
          rw [hs] at hr
          refine hg S2 s' σ' H2 x d s2 _ rel2 rp2 hs fun S3 σ3 st3 rel3 _ _ _ => ?_
          have stt := (st'.trans st2).trans st3
          refine hb S3 s2 σ3 H2 _ rel3 ?_
          have hr : (match b s2 with | .nx s2 => forN f b im.ck (im.xs.drop (i + 1)) s2 | .ct s2 => forN f b im.ck (im.xs.drop (i + 1)) s2 | .bk s2 => .nx s2 | .rt a s2 => .rt a s2 | .er x s2 => .er x s2 | .no => .no) = R := hr
          cases hbs : b s2 with
          | nx s4 => rw [hbs] at hr; exact fun S4 σ4 H4 st4 rel4 => ⟨S4, s4, stt.trans st4, rel4, hr⟩
          | ct s4 => rw [hbs] at hr; exact fun S4 σ4 H4 st4 rel4 => ⟨S4, s4, stt.trans st4, rel4, hr⟩
          | bk s4 => rw [hbs] at hr; subst hr; exact fun S4 σ4 H4 st4 rel4 => p1 S4 σ4 H4 (stt.trans st4) rel4
          | rt a s4 => rw [hbs] at hr; subst hr; exact fun S4 σ4 v H4 st4 rel4 q => p1 S4 σ4 v H4 (stt.trans st4) rel4 q
          | er x s4 => rw [hbs] at hr; subst hr; exact fun S4 σ4 H4 dd st4 rel4 q => p1 S4 σ4 H4 dd (stt.trans st4) rel4 q
          | no => rw [hbs] at hr; exact absurd hr.symm nno
    · have e : im.xs.drop i = [] := List.drop_eq_nil_of_le (by omega)
      rw [e] at hr
      unfold forN at hr
      have hc : chk im.ck s' := Classical.byContradiction fun z => by rw [if_neg z] at hr; exact nno hr.symm
      rw [if_pos hc] at hr
      have ei : i = im.xs.length := by omega
      subst hr
      refine .inl ⟨?_, p1 S' σ' H' st' rel'⟩
      rw [ei]
      exact (wk S' s' σ' H' st' rel' hc).2)
def whN (c : Mo Bool) (b : Ms) : Nat → Ms
  | 0, _ => .no
  | n + 1, s => (c s).toS fun k s1 => if k = true then (match b s1 with
    | .nx s2 => whN c b n s2
    | .ct s2 => whN c b n s2
    | .bk s2 => .nx s2
    | .rt a s2 => .rt a s2
    | .er x s2 => .er x s2
    | .no => .no) else .nx s1
theorem whN_mono {c : Mo Bool} {b : Ms} : ∀ {n : Nat} {s : Stt} {r : Rs}, whN c b n s = r → r ≠ .no → whN c b (n + 1) s = r
  | 0, s, r, h, nr => absurd h.symm nr
  | n + 1, s, r, h, nr => by
    unfold whN at h ⊢
    cases hc : c s with
    | no => rw [hc] at h; exact absurd h.symm nr
    | er x s1 => rw [hc] at h; exact h
    | ok k s1 =>
      rw [hc] at h
      have h : (if k = true then (match b s1 with | .nx s2 => whN c b n s2 | .ct s2 => whN c b n s2 | .bk s2 => .nx s2 | .rt a s2 => .rt a s2 | .er x s2 => .er x s2 | .no => .no) else Rs.nx s1) = r := h
      show (if k = true then (match b s1 with | .nx s2 => whN c b (n + 1) s2 | .ct s2 => whN c b (n + 1) s2 | .bk s2 => .nx s2 | .rt a s2 => .rt a s2 | .er x s2 => .er x s2 | .no => .no) else Rs.nx s1) = r
      cases k with
      | false => rw [if_neg Bool.false_ne_true] at h ⊢; exact h
      | true =>
        rw [if_pos rfl] at h ⊢
        cases hb : b s1 with
        | nx s2 => rw [hb] at h; exact whN_mono h nr
        | ct s2 => rw [hb] at h; exact whN_mono h nr
        | bk s2 => rw [hb] at h; exact h
        | rt a s2 => rw [hb] at h; exact h
        | er x s2 => rw [hb] at h; exact h
        | no => rw [hb] at h; exact h
theorem whN_le {c : Mo Bool} {b : Ms} {n m : Nat} {s : Stt} {r : Rs} (h : whN c b n s = r) (nr : r ≠ .no) (hl : n ≤ m) : whN c b m s = r := by
  obtain ⟨d, rfl⟩ := Nat.exists_eq_add_of_le hl
  induction d with
  | zero => exact h
  | succ d ih => exact whN_mono (ih (by omega)) nr
open Classical in
noncomputable def mWh (c : Mo Bool) (b : Ms) : Ms := fun s => if h : ∃ n, whN c b n s ≠ .no then whN c b (Classical.choose h) s else .no
theorem mWh_eq {c : Mo Bool} {b : Ms} {n : Nat} {s : Stt} {r : Rs} (h : whN c b n s = r) (nr : r ≠ .no) : mWh c b s = r := by
  have e : ∃ n, whN c b n s ≠ .no := ⟨n, by rw [h]; exact nr⟩
  unfold mWh
  rw [dif_pos e]
  have k := Classical.choose_spec e
  rcases Nat.le_total n (Classical.choose e) with l | l
  · exact whN_le h nr l
  · rw [← h]; exact (whN_le rfl k l).symm
theorem sv_while {c : TT} {tb : TS} {mc : Mo Bool} {b : Ms} (hc : Et K ct H0 W c mc) (hb : Sv K ct H0 W tb b) : Sv K ct H0 W (tWhile c tb) (mWh mc b) := fun S s σ H Dn rel p => by
  unfold mWh at p
  split at p
  · rename_i h
    have nno := Classical.choose_spec h
    generalize hR : whN mc b (Classical.choose h) s = R at p nno
    refine ⟨fun m σ' H' => ∃ S' s', Stp S s.M.length H S' s'.M.length H' ∧ Rel K ct H0 S' s' σ' H' ∧ whN mc b m s' = R, ⟨_, S, s, .refl, rel, hR⟩, ?_⟩
    rintro m σ' H' ⟨S', s', st', rel', hr⟩
    cases m with
    | zero => exact absurd hr.symm nno
    | succ m =>
      unfold whN at hr
      refine hc S' s' σ' H' _ rel' ?_
      cases hcs : mc s' with
      | no => rw [hcs] at hr; exact absurd hr.symm nno
      | er x s1 => rw [hcs] at hr; have hr : Rs.er x s1 = R := hr; subst hr; exact fun S1 H1 dd st1 rel1 q => p S1 σ' H1 dd (st'.trans st1) rel1 q
      | ok k s1 =>
        rw [hcs] at hr
        intro S1 k' H1 st1 rel1 ek
        have ek : k' = k := ek
        rw [ek]
        clear ek
        have hr : (if k = true then (match b s1 with | .nx s2 => whN mc b m s2 | .ct s2 => whN mc b m s2 | .bk s2 => .nx s2 | .rt a s2 => .rt a s2 | .er x s2 => .er x s2 | .no => .no) else Rs.nx s1) = R := hr
        cases k with
        | false => rw [if_neg Bool.false_ne_true] at hr ⊢; subst hr; exact p S1 σ' H1 (st'.trans st1) rel1
        | true =>
          rw [if_pos rfl] at hr ⊢
          refine ⟨fun σ2 H2 => ∃ S2 s2, Stp S s.M.length H S2 s2.M.length H2 ∧ Rel K ct H0 S2 s2 σ2 H2 ∧ whN mc b m s2 = R, fun σ2 H2 ⟨S2, s2, k1, k2, k3⟩ => ⟨m, Nat.lt_succ_self m, S2, s2, k1, k2, k3⟩, ?_⟩
          have stt := st'.trans st1
          refine hb S1 s1 σ' H1 _ rel1 ?_
          cases hbs : b s1 with
          | nx s4 => rw [hbs] at hr; exact fun S4 σ4 H4 st4 rel4 => ⟨S4, s4, stt.trans st4, rel4, hr⟩
          | ct s4 => rw [hbs] at hr; exact fun S4 σ4 H4 st4 rel4 => ⟨S4, s4, stt.trans st4, rel4, hr⟩
          | bk s4 => rw [hbs] at hr; subst hr; exact fun S4 σ4 H4 st4 rel4 => p S4 σ4 H4 (stt.trans st4) rel4
          | rt a s4 => rw [hbs] at hr; subst hr; exact fun S4 σ4 v H4 st4 rel4 q => p S4 σ4 v H4 (stt.trans st4) rel4 q
          | er x s4 => rw [hbs] at hr; subst hr; exact fun S4 σ4 H4 dd st4 rel4 q => p S4 σ4 H4 dd (stt.trans st4) rel4 q
          | no => rw [hbs] at hr; exact absurd hr.symm nno
  · exact False.elim p
end
end Y
namespace Y
open PySem L2 Z
def wipeE (env : List (Option Ent)) : List Nat → List (Option Ent)
  | [] => env
  | v :: vs => (wipeE env vs).set v none
def wipeS (ws : List Nat) (s : Stt) : Stt := ⟨wipeE s.env ws, s.M⟩
def kp : Option (Option Ent) → Option Ent
  | some (some (.fz d)) => some (.fz d)
  | _ => none
def rest (e0 e' : List (Option Ent)) : List Nat → List (Option Ent)
  | [] => e'
  | v :: vs => (rest e0 e' vs).set v (kp e0[v]?)
theorem rest_len {e0 e' : List (Option Ent)} : ∀ {ws : List Nat}, (rest e0 e' ws).length = e'.length
  | [] => rfl
  | v :: vs => by show ((rest e0 e' vs).set v _).length = _; rw [List.length_set]; exact rest_len
theorem rest_get {e0 e' : List (Option Ent)} {i : Nat} {en : Ent} : ∀ {ws : List Nat}, (rest e0 e' ws)[i]? = some (some en) → (∃ d, en = .fz d ∧ e0[i]? = some (some (.fz d))) ∨ (i ∉ ws ∧ e'[i]? = some (some en))
  | [], h => .inr ⟨by simp, h⟩
  | v :: vs, h => by
    have h1 : ((rest e0 e' vs).set v (kp e0[v]?))[i]? = some (some en) := h
    by_cases e : v = i
    · subst e
      have hl : v < (rest e0 e' vs).length := by
        have := (List.getElem?_eq_some_iff.mp h1).1
        rw [List.length_set] at this; exact this
      rw [List.getElem?_set_self hl] at h1
      have h2 : kp e0[v]? = some en := Option.some.inj h1
      unfold kp at h2
      split at h2
      · rename_i d q; cases h2; exact .inl ⟨d, rfl, q⟩
      · cases h2
    · rw [List.getElem?_set_ne e] at h1
      rcases rest_get h1 with k | ⟨k1, k2⟩
      · exact .inl k
      · exact .inr ⟨by simp; exact ⟨fun z => e z.symm, k1⟩, k2⟩
section
variable {K : PySem.W.Frag} {ct : Ct} {H0 : Hp} {W : WX} {S : Sh} {s : Stt} {σ : St} {H : Hp}
theorem Rel.setN2 {i : Nat} (r : Rel K ct H0 S s σ H) : Rel K ct H0 (S.un i) ⟨s.env.set i none, s.M⟩ (σ.set i none) H := by
  refine ⟨r.sub, fun a l q => r.lg a l (un_of q), r.dom, by rw [List.length_set]; show _ = (s.env.set i _).length; rw [List.length_set]; exact r.len, fun j en q => ?_, fun k c q => ?_⟩
  · have q1 : (s.env.set i none)[j]? = some (some en) := q
    by_cases z : i = j
    · subst z
      have hlt : i < s.env.length := by
        have := (List.getElem?_eq_some_iff.mp q1).1
        rw [List.length_set] at this; exact this
      rw [List.getElem?_set_self hlt] at q1
      cases q1
    · rw [List.getElem?_set_ne z] at q1
      have hh := r.slot j en q1
      cases en with
      | fz d' => obtain ⟨w, k1, k2⟩ := hh; exact ⟨w, by rw [List.getElem?_set_ne z]; exact k1, k2⟩
      | xn x => exact xn_mono (S := S) (n := s.M.length) (H := H) (fun _ _ e => e) (fun _ _ => rfl) (Nat.le_refl _) (List.getElem?_set_ne z) hh
      | ow c =>
        obtain ⟨p, k1, k2, k3, k4, k5⟩ := hh
        exact ⟨p, by rw [List.getElem?_set_ne z]; exact k1, k2, un_lab k3 (fun w => by cases w; exact z rfl), k4, cn_un k5⟩
  · obtain ⟨k1, k2⟩ := r.ids k c q
    exact ⟨un_lab k1 (fun w => by cases w), cn_un k2⟩
theorem Rel.wipe (r : Rel K ct H0 S s σ H) : ∀ ws : List Nat, ∃ S', Rel K ct H0 S' (wipeS ws s) (wipe σ ws) H ∧ Stp S s.M.length H S' s.M.length H ∧ S'.G = S.G ∧ S'.α = S.α ∧ ∀ a, S.lab a = none → S'.lab a = none
  | [] => ⟨S, r, .refl, rfl, rfl, fun _ h => h⟩
  | v :: vs => by
    obtain ⟨S', r', st, hg, ha, hl⟩ := r.wipe vs
    refine ⟨S'.un v, r'.setN2, st.trans .un, hg, ha, fun a h => ?_⟩
    show (if S'.lab a = some (.slot v) then none else S'.lab a) = none
    rw [hl a h]; rfl
theorem Rel.rest {S' : Sh} {s' : Stt} {H' : Hp} {ws : List Nat} (r0 : Rel K ct H0 S s σ H) (st : Stp S s.M.length H S' s'.M.length H') (r : Rel K ct H0 S' s' (L2.wipe σ ws) H') : Rel K ct H0 S' ⟨rest s.env s'.env ws, s'.M⟩ σ H' := by
  refine ⟨r.sub, r.lg, r.dom, by show _ = (Y.rest _ _ _).length; rw [rest_len, ← r.len, wipe_length], fun j en q => ?_, r.ids⟩
  rcases rest_get q with ⟨d, rfl, k⟩ | ⟨k1, k2⟩
  · obtain ⟨v, h1, h2⟩ := r0.slot j _ k
    exact ⟨v, h1, h2.step st⟩
  · have hh := r.slot j en k2
    cases en with
    | fz d => obtain ⟨v, h1, h2⟩ := hh; exact ⟨v, by rw [← wipe_out k1]; exact h1, h2⟩
    | xn x => exact xn_mono (S := S') (n := s'.M.length) (H := H') (fun _ _ e => e) (fun _ _ => rfl) (Nat.le_refl _) (wipe_out k1).symm hh
    | ow c => obtain ⟨p, h1, h2, h3, h4, h5⟩ := hh; exact ⟨p, by rw [← wipe_out k1]; exact h1, h2, h3, h4, h5⟩
/-- what nobody has is changed -/
theorem Rel.updU {p : Addr} {o : HO} (r : Rel K ct H0 S s σ H) (hl : S.lab p = none) (hg : S.G p = none) : Rel K ct H0 S s σ (upd H p o) := by
  have cn : ∀ {a : Addr} {c : Cn} {l : Lab}, S.lab a = some l → CnOk K ct S s.M.length H a c → CnOk K ct S s.M.length (upd H p o) a c := fun {a c l} q h => h.mono (fun _ _ e => e) (fun _ _ => rfl) (Nat.le_refl _) (fun _ e => by rw [upd_ne (fun z => by subst z; rw [hl] at q; cases q)]; exact e)
  refine ⟨fun a u e => by rw [U_ne (ne_of_none e hg)]; exact r.sub a u e, fun a l e => ?_, fun a e => r.dom a (upd_none.mp e).2, r.len, fun i e h => ?_, fun k c h => ?_⟩
  · obtain ⟨h1, u, h2⟩ := r.lg a l e
    exact ⟨h1, u, by rw [upd_ne (fun z => by subst z; rw [hl] at e; cases e)]; exact h2⟩
  · have q := r.slot i e h
    cases e with
    | fz d => exact q
    | xn x => exact xn_mono (S := S) (n := s.M.length) (H := H) (fun _ _ e => e) (fun _ _ => rfl) (Nat.le_refl _) rfl q
    | ow c =>
      obtain ⟨a, h1, h2, h3, h4, h5⟩ := q
      exact ⟨a, h1, h2, h3, h4, cn h3 h5⟩
  · obtain ⟨h1, h2⟩ := r.ids k c h
    exact ⟨h1, cn h1 h2⟩
theorem Stp.updNew {S' : Sh} {n n' : Nat} {H' : Hp} {p : Addr} {o : HO} (t : Stp S n H S' n' H') (hp : H p = none) : Stp S n H S' n' (upd H' p o) where
  g := t.g
  le := t.le
  al := t.al
  fr := fun a u h l => by
    obtain ⟨h1, h2⟩ := t.fr a u h l
    exact ⟨by rw [upd_ne (ne_of_none h hp)]; exact h1, h2⟩
  gn := t.gn
  dom := fun a e => t.dom a (upd_none.mp e).2
def W0 : WX := fun _ _ _ _ => False
open Classical in
noncomputable def lcN (ws : List Nat) (g : Tg) (c : Mo Bool) (e : Mo D) (ck : Option (Nat × Cn)) : List D → List D → Mo (List D)
  | [], acc, s => if chk ck s then .ok acc s else .no
  | x :: xs, acc, s => if chk ck s then (match g x s with
    | none => .no
    | some s1 => match c s1 with
      | .ok b s2 => if b = true then (match e s2 with
        | .ok d s3 => if acc.length < sizeLine then lcN ws g c e ck xs (acc ++ [d]) (wipeS ws s3) else .no
        | _ => .no) else lcN ws g c e ck xs acc (wipeS ws s2)
      | _ => .no) else .no
noncomputable def mLc (ws : List Nat) (mi : Mo Im) (g : Tg) (c : Mo Bool) (e : Mo AI) : Mo AI := fun s => (mi s).bind fun im s1 => match lcN ws g c (mV e) im.ck im.xs [] (wipeS ws s1) with
  | .ok l s2 => .ok (.new (.lst l)) ⟨rest s1.env s2.env ws, s2.M⟩
  | _ => .no
def mYes : Mo Bool := fun s => .ok true s
theorem et_yes : Et K ct H0 W tYes mYes := fun S s σ H Q rel p => p S true H .refl rel rfl
theorem ei_lcAt {js ws : List Nat} {wi : TI} {g : TG} {tt : TT} {te : TE} {mi : Mo Im} {f : Tg} {c : Mo Bool} {e : Mo AI} {S : Sh} {s : Stt} {σ : St} {H : Hp} {Q : VK} (hi : ∀ R, Pst K ct H0 (RW K ct H0) W S s σ H R (mi s) → wi σ H R) (hg : Sg K ct H0 js g f) (hjs : ∀ j ∈ js, j ∈ ws) (hc : Et K ct H0 W0 tt c) (he : Ei K ct H0 W0 te e)
    (p : Pst K ct H0 (RI K ct) W S s σ H Q (mLc ws mi f c e s)) : tLc wi g tt te ws σ H Q :=
  hi _ (Pst.bind bI p fun S1 s1 H1 J im st1 rel1 wk p1 => by
    intro D hD
    generalize hR : lcN ws f c (mV e) im.ck im.xs [] (wipeS ws s1) = R at p1
    cases R with
    | no => exact False.elim p1
    | er x s2 => exact False.elim p1
    | ok l s2 =>
      have p1 : Pst K ct H0 (RI K ct) W S1 s1 σ H1 Q (.ok (.new (.lst l)) ⟨rest s1.env s2.env ws, s2.M⟩) := p1
      obtain ⟨S1', rel1', st1', hg1, ha1, hl1⟩ := rel1.wipe ws
      refine ⟨fun i m H' => m = im.xs.length - i ∧ i ≤ im.xs.length ∧ ∃ S' s' acc accV, Stp S1 s1.M.length H1 S' s'.M.length H' ∧ Rel K ct H0 S' s' (wipe σ ws) H' ∧ H' D = some (.lst accV) ∧ S'.lab D = none ∧ S'.G D = none ∧ RpL K S'.G S'.α s'.M.length accV acc ∧ lcN ws f c (mV e) im.ck (im.xs.drop i) acc s' = .ok l s2, ⟨im.xs.length, rfl, Nat.zero_le _, S1', wipeS ws s1, [], [], st1'.updNew hD, rel1'.new hD, upd_same, rel1'.labN hD, rel1'.gN hD, .nil, hR⟩, ?_⟩
      rintro i m H' ⟨rfl, hi', S', s', acc, accV, st', rel', hDl, hDlab, hDg, rl, hr⟩
      by_cases hlt : i < im.xs.length
      · have ex := List.drop_eq_getElem_cons hlt
        rw [ex] at hr
        have hx : im.xs[i]? = some im.xs[i] := List.getElem?_eq_getElem hlt
        generalize im.xs[i] = d at ex hr hx
        unfold lcN at hr
        have hck : chk im.ck s' := Classical.byContradiction fun z => by rw [if_neg z] at hr; cases hr
        rw [if_pos hck] at hr
        obtain ⟨go, yl⟩ := (wk S' s' _ H' st' rel' hck).1 i d hx
        refine .inr ⟨go, fun H2 => ∃ S2 s3 acc accV, Stp S1 s1.M.length H1 S2 s3.M.length H2 ∧ Rel K ct H0 S2 s3 (wipe σ ws) H2 ∧ H2 D = some (.lst accV) ∧ S2.lab D = none ∧ S2.G D = none ∧ RpL K S2.G S2.α s3.M.length accV acc ∧ lcN ws f c (mV e) im.ck (im.xs.drop (i + 1)) acc s3 = .ok l s2, ?_, ?_⟩
        · rintro H2 ⟨S2, s3, acc', accV', k⟩
          exact ⟨im.xs.length - (i + 1), by omega, rfl, hlt, S2, s3, acc', accV', k⟩
        · intro x H2 hy
          obtain ⟨S2, st2, rel2, rp2⟩ := yl x H2 hy
          cases hs : f d s' with
          | none => rw [hs] at hr; cases hr
          | some s3 =>
            rw [hs] at hr
            refine hg S2 s' _ H2 x d s3 _ rel2 rp2 hs fun S3 σ3 st3 rel3 kk _ _ => ?_
            have hw : wipe σ3 ws = wipe σ ws := by
              rw [kk ws hjs]
              refine List.ext_getElem? fun k => ?_
              by_cases hk : k ∈ ws
              · by_cases hl : k < σ.length
                · rw [wipe_in hk (by rw [wipe_length]; exact hl), wipe_in hk hl]
                · rw [List.getElem?_eq_none_iff.mpr (by rw [wipe_length, wipe_length]; omega), List.getElem?_eq_none_iff.mpr (by rw [wipe_length]; omega)]
              · rw [wipe_out hk]
            refine ⟨hw, ?_⟩
            have stt := (st'.trans st2).trans st3
            have str := (st2.trans st3)
            obtain ⟨d3, l3⟩ := str.fr D _ hDl hDlab
            refine hc S3 s3 σ3 H2 _ rel3 ?_
            have hr : (match c s3 with | .ok b s2 => if b = true then (match mV e s2 with | .ok d s3 => if acc.length < sizeLine then lcN ws f c (mV e) im.ck (im.xs.drop (i + 1)) (acc ++ [d]) (wipeS ws s3) else .no | _ => .no) else lcN ws f c (mV e) im.ck (im.xs.drop (i + 1)) acc (wipeS ws s2) | _ => .no) = Ro.ok l s2 := hr
            have gD : ∀ {Sx : Sh} {nx : Nat} {Hx : Hp}, Stp S' s'.M.length H' Sx nx Hx → Sx.G D = none := fun {Sx nx Hx} t => by
              cases q : Sx.G D with
              | none => rfl
              | some u =>
                rcases t.gn D u q with z | z | ⟨lb, z⟩
                · rw [hDg] at z; cases z
                · rw [hDl] at z; cases z
                · rw [hDlab] at z; cases z
            cases hcs : c s3 with
            | no => rw [hcs] at hr; cases hr
            | er x s4 => rw [hcs] at hr; cases hr
            | ok b s4 =>
              rw [hcs] at hr
              intro S4 b' H4 st4 rel4 eb
              have eb : b' = b := eb
              rw [eb]
              have str4 := str.trans st4
              obtain ⟨d4, l4⟩ := str4.fr D _ hDl hDlab
              cases b with
              | false =>
                rw [if_neg Bool.false_ne_true]
                have hr : lcN ws f c (mV e) im.ck (im.xs.drop (i + 1)) acc (wipeS ws s4) = .ok l s2 := hr
                obtain ⟨S5, rel5, st5, hg5, ha5, hl5⟩ := rel4.wipe ws
                rw [hw] at rel5
                exact ⟨S5, wipeS ws s4, acc, accV, (stt.trans st4).trans st5, rel5, d4, hl5 _ l4, gD (str4.trans st5), rl.step (str4.trans st5), hr⟩
              | true =>
                rw [if_pos rfl]
                have hr : (match mV e s4 with | .ok d s3 => if acc.length < sizeLine then lcN ws f c (mV e) im.ck (im.xs.drop (i + 1)) (acc ++ [d]) (wipeS ws s3) else .no | _ => .no) = Ro.ok l s2 := hr
                refine ev_of he S4 s4 σ3 H4 _ rel4 ?_
                cases hes : mV e s4 with
                | no => rw [hes] at hr; cases hr
                | er x s5 => rw [hes] at hr; cases hr
                | ok d' s5 =>
                  rw [hes] at hr
                  have hr : (if acc.length < sizeLine then lcN ws f c (mV e) im.ck (im.xs.drop (i + 1)) (acc ++ [d']) (wipeS ws s5) else .no) = Ro.ok l s2 := hr
                  intro S5 y H5 st5 rel5 rp5
                  have str5 := str4.trans st5
                  obtain ⟨d5, l5⟩ := str5.fr D _ hDl hDlab
                  split at hr
                  · rename_i hz
                    refine ⟨accV, d5, by rw [rl.length]; exact hz, ?_⟩
                    have rel6 := rel5.updU (o := .lst (accV ++ [y])) l5 (gD str5)
                    obtain ⟨S7, rel7, st7, hg7, ha7, hl7⟩ := rel6.wipe ws
                    rw [hw] at rel7
                    have rl7 : RpL K S7.G S7.α (wipeS ws s5).M.length (accV ++ [y]) (acc ++ [d']) := by
                      rw [hg7, ha7]
                      exact (rl.step str5).append (.cons rp5 .nil)
                    exact ⟨S7, wipeS ws s5, acc ++ [d'], accV ++ [y], (((stt.trans st4).trans st5).updNew hD).trans st7, rel7, upd_same, hl7 _ l5, by rw [hg7]; exact gD str5, rl7, hr⟩
                  · cases hr
      · have ex : im.xs.drop i = [] := List.drop_eq_nil_of_le (by omega)
        rw [ex] at hr
        unfold lcN at hr
        have hck : chk im.ck s' := Classical.byContradiction fun z => by rw [if_neg z] at hr; cases hr
        rw [if_pos hck] at hr
        cases hr
        have ei : i = im.xs.length := by omega
        refine .inl ⟨by rw [ei]; exact (wk S' _ _ H' st' rel' hck).2, ?_⟩
        exact p1 S' _ H' st' (rel1.rest st' rel') ⟨D, rfl, hD, hDlab, hDg, rfl, accV, hDl, rl⟩)
theorem ei_lc {js ws : List Nat} {wi : TI} {g : TG} {tt : TT} {te : TE} {mi : Mo Im} {f : Tg} {c : Mo Bool} {e : Mo AI} (hi : Jw K ct H0 W wi mi) (hg : Sg K ct H0 js g f) (hjs : ∀ j ∈ js, j ∈ ws) (hc : Et K ct H0 W0 tt c) (he : Ei K ct H0 W0 te e) :
    Ei K ct H0 W (tLc wi g tt te ws) (mLc ws mi f c e) := fun S s σ H Q rel p => ei_lcAt (fun R q => hi S s σ H R rel q) hg hjs hc he p
def FPst (K : PySem.W.Frag) (ct : Ct) (S : Sh) (M : List Cn) (H : Hp) (Q : VK) (E : XK) : Fr → Prop
  | .ok a M' => ∀ S' v H', Stp S M.length H S' M'.length H' → Rel K ct H S' ⟨[], M'⟩ [] H' → ItOk K ct H S' ⟨[], M'⟩ [] H' v a → Q v H'
  | .er x M' => ∀ S' H' dd, Stp S M.length H S' M'.length H' → Rel K ct H S' ⟨[], M'⟩ [] H' → XOk K S' M'.length H' x dd → E (.ref (ct x.cls)) dd H'
  | .no => False
/-- a def's promise -/
def spM (K : PySem.W.Frag) (ct : Ct) (f : Mf) : Sp := fun vs H Q E => ∃ S M ds, Rel K ct H S ⟨[], M⟩ [] H ∧ RpL K S.G S.α M.length vs ds ∧ FPst K ct S M H Q E (f ds M)
/-- np parameters, n slots -/
def mFn (np n : Nat) (body : Ms) : Mf := fun ds M => if ds.length = np then (match body ⟨ds.map (fun d => some (.fz d)) ++ List.replicate (n - ds.length) none, M⟩ with
  | .nx s => .ok (.val .non) s.M
  | .rt a s => .ok a s.M
  | .er x s => .er x s.M
  | _ => .no) else .no
theorem sp_len {np n : Nat} {body : Ms} {vs : List V} {Q : VK} {E : XK} (h : spM K ct (mFn np n body) vs H Q E) : vs.length = np := by
  obtain ⟨S, M, ds, _, r, h⟩ := h
  rw [r.length]
  unfold mFn at h
  split at h
  · assumption
  · exact False.elim h
theorem Rel.enter {vs : List V} {ds : List D} {N : List Str} {M : List Cn} (r : Rel K ct H S ⟨[], M⟩ [] H) (h : RpL K S.G S.α M.length vs ds) : Rel K ct H S ⟨ds.map (fun d => some (.fz d)) ++ List.replicate (N.length - ds.length) none, M⟩ (start N vs) H := by
  refine ⟨r.sub, r.lg, r.dom, ?_, fun i e q => ?_, r.ids⟩
  · show (vs.map some ++ List.replicate (N.length - vs.length) none).length = (ds.map _ ++ List.replicate _ none).length
    simp only [List.length_append, List.length_map, List.length_replicate, h.length]
  · have q1 : (ds.map (fun d => some (Ent.fz d)) ++ List.replicate (N.length - ds.length) none)[i]? = some (some e) := q
    by_cases hl : i < ds.length
    · rw [List.getElem?_append_left (by rw [List.length_map]; exact hl), List.getElem?_map] at q1
      obtain ⟨d, e1, e2⟩ := Option.map_eq_some_iff.mp q1
      cases e2
      obtain ⟨v, h1, h2⟩ := h.get e1
      refine ⟨v, ?_, h2⟩
      show (vs.map some ++ List.replicate (N.length - vs.length) none)[i]? = _
      rw [List.getElem?_append_left (by rw [List.length_map, h.length]; exact hl), List.getElem?_map, h1]; rfl
    · rw [List.getElem?_append_right (by rw [List.length_map]; omega), List.getElem?_replicate] at q1
      split at q1
      · cases q1
      · cases q1
theorem Rel.leave (r : Rel K ct H0 S s σ H) : Rel K ct H0 S ⟨[], s.M⟩ [] H := ⟨r.sub, r.lg, r.dom, rfl, fun i e q => by simp at q, r.ids⟩
/-- the body keeps the promise -/
theorem fn_run {N : List Str} {np : Nat} {t : TS} {body : Ms} {vs : List V} {Q : VK} {E : XK} (hb : Sv K ct H (fun cls dd _ H' => E cls dd H') t body) (h : spM K ct (mFn np N.length body) vs H Q E) : t { nx := fun _ H' => Q .non H', rt := Q } (start N vs) H := by
  obtain ⟨S, M, ds, r, rp, h⟩ := h
  refine hb S _ _ H _ (r.enter rp) ?_
  unfold mFn at h
  split at h
  rotate_left
  · exact False.elim h
  generalize hR : body ⟨ds.map (fun d => some (.fz d)) ++ List.replicate (N.length - ds.length) none, M⟩ = R at h
  cases R with
  | nx s => exact fun S' σ' H' st rel => h S' .non H' st rel.leave .non
  | rt a s => exact fun S' σ' v H' st rel i => h S' v H' st rel.leave (by
      cases a with
      | val d => exact i
      | new c => exact i
      | slot j => simp [ItOk] at i)
  | er x s => exact fun S' σ' H' dd st rel q => h S' H' dd st rel.leave q
  | bk s => exact False.elim h
  | ct s => exact False.elim h
  | no => exact False.elim h
def Sh.hide (S : Sh) : Sh := ⟨S.G, S.α, fun a => match S.lab a with
  | some (.slot _) => none
  | l => l⟩
def Sh.back (S S' : Sh) : Sh := ⟨S'.G, S'.α, fun a => match S.lab a with
  | some (.slot i) => some (.slot i)
  | _ => match S'.lab a with
    | some (.slot _) => none
    | l => l⟩
theorem hide_of {a : Addr} {l : Lab} (h : S.hide.lab a = some l) : S.lab a = some l ∧ ∀ i, l ≠ .slot i := by
  have h1 : (match S.lab a with | some (.slot _) => none | l => l) = some l := h
  split at h1
  · cases h1
  · rename_i hn; exact ⟨h1, fun i z => by subst z; exact hn i h1⟩
theorem hide_id {a : Addr} {k : Nat} (h : S.lab a = some (.id k)) : S.hide.lab a = some (.id k) := by
  show (match S.lab a with | some (.slot _) => none | l => l) = _
  rw [h]
theorem hide_none {a : Addr} (h : S.lab a = none) : S.hide.lab a = none := by
  show (match S.lab a with | some (.slot _) => none | l => l) = _
  rw [h]
theorem hide_slot {a : Addr} {i : Nat} (h : S.lab a = some (.slot i)) : S.hide.lab a = none := by
  show (match S.lab a with | some (.slot _) => none | l => l) = _
  rw [h]
theorem back_slot {S' : Sh} {a : Addr} {i : Nat} (h : S.lab a = some (.slot i)) : (S.back S').lab a = some (.slot i) := by
  show (match S.lab a with | some (.slot i) => some (Lab.slot i) | _ => (match S'.lab a with | some (.slot _) => none | l => l)) = _
  rw [h]
theorem back_else {S' : Sh} {a : Addr} (h : ∀ i, S.lab a ≠ some (.slot i)) : (S.back S').lab a = (match S'.lab a with | some (.slot _) => none | l => l) := by
  show (match S.lab a with | some (.slot i) => some (Lab.slot i) | _ => (match S'.lab a with | some (.slot _) => none | l => l)) = _
  split
  · rename_i i e; exact absurd e (h i)
  · rfl
theorem Rel.hide (r : Rel K ct H0 S s σ H) : Rel K ct H S.hide ⟨[], s.M⟩ [] H := ⟨r.sub, fun a l q => r.lg a l (hide_of q).1, fun _ h => h, rfl, fun i e q => by simp at q, fun k c q => ⟨hide_id (r.ids k c q).1, (r.ids k c q).2.mono (fun _ _ e => e) (fun _ _ => rfl) (Nat.le_refl _) (fun _ e => e)⟩⟩
theorem Rel.back {S' : Sh} {M' : List Cn} {H' : Hp} (r : Rel K ct H0 S s σ H) (st : Stp S.hide s.M.length H S' M'.length H') (r' : Rel K ct H S' ⟨[], M'⟩ [] H') :
    Rel K ct H0 (S.back S') ⟨s.env, M'⟩ σ H' ∧ Stp S s.M.length H (S.back S') M'.length H' := by
  have slot_keep : ∀ {a : Addr} {i : Nat}, S.lab a = some (.slot i) → (∀ o, H a = some o → H' a = some o) ∧ S'.G a = none ∧ S'.lab a = none := fun {a i} h => by
    obtain ⟨hg, o, ho⟩ := r.lg a _ h
    have k := st.fr a o ho (hide_slot h)
    refine ⟨fun u hu => (st.fr a u hu (hide_slot h)).1, ?_, k.2⟩
    cases q : S'.G a with
    | none => rfl
    | some u =>
      rcases st.gn a u q with z | z | ⟨l, z⟩
      · have z : S.G a = some u := z; rw [hg] at z; cases z
      · rw [ho] at z; cases z
      · rw [hide_slot h] at z; cases z
  have cn : ∀ {a : Addr} {c : Cn}, CnOk K ct S' M'.length H' a c → CnOk K ct (S.back S') M'.length H' a c := fun {a c} h => h.mono (fun _ _ e => e) (fun _ _ => rfl) (Nat.le_refl _) (fun _ e => e)
  refine ⟨⟨r'.sub, fun a l q => ?_, fun a h => r.dom a (st.dom a h), r.len, fun i e q => ?_, fun k c q => ?_⟩, ⟨st.g, st.le, st.al, fun a o h l => ?_, fun a o q => ?_, st.dom⟩⟩
  · by_cases hs : ∃ i, S.lab a = some (.slot i)
    · obtain ⟨i, hs⟩ := hs
      obtain ⟨_, o, ho⟩ := r.lg a _ hs
      obtain ⟨k1, k2, k3⟩ := slot_keep hs
      exact ⟨k2, o, k1 o ho⟩
    · rw [back_else (fun i z => hs ⟨i, z⟩)] at q
      split at q
      · cases q
      · exact r'.lg a l q
  · have hh := r.slot i e q
    cases e with
    | fz d => obtain ⟨v, h1, h2⟩ := hh; exact ⟨v, h1, h2.mono st.g st.al st.le⟩
    | xn x => exact xn_mono (S := S) (n := s.M.length) (H := H) st.g st.al st.le rfl hh
    | ow c =>
      obtain ⟨p, h1, h2, h3, h4, h5⟩ := hh
      obtain ⟨k1, k2, k3⟩ := slot_keep h3
      exact ⟨p, h1, h2, back_slot h3, h4, h5.mono st.g st.al st.le k1⟩
  · obtain ⟨k1, k2⟩ := r'.ids k c q
    refine ⟨?_, cn k2⟩
    have hne : ∀ i, S.lab (S'.α k) ≠ some (.slot i) := fun i z => by
      have := (slot_keep z).2.2
      rw [k1] at this; cases this
    show (S.back S').lab (S'.α k) = _
    rw [back_else hne, k1]
  · obtain ⟨h1, h2⟩ := st.fr a o h (hide_none l)
    refine ⟨h1, ?_⟩
    rw [back_else (fun i z => by rw [l] at z; cases z), h2]
  · rcases st.gn a o q with z | z | ⟨l, z⟩
    · exact .inl z
    · exact .inr (.inl z)
    · exact .inr (.inr ⟨l, (hide_of z).1⟩)
def mCall (f : Mf) (m : Mo (List D)) : Mo AI := fun s => (m s).bind fun ds s1 => match f ds s1.M with
  | .ok a M' => .ok a ⟨s1.env, M'⟩
  | .er x M' => .er x ⟨s1.env, M'⟩
  | .no => .no
/-- .. where it doesn't raise -/
def mCallN (f : Mf) (m : Mo (List D)) : Mo AI := fun s => (m s).bind fun ds s1 => match f ds s1.M with
  | .ok a M' => .ok a ⟨s1.env, M'⟩
  | _ => .no
theorem fpst_of {f : Fr} {E : XK} {Q : VK} (rel : Rel K ct H0 S s σ H) (hE : ∀ x M', f = .er x M' → ∀ S' H' dd, Stp S s.M.length H S' M'.length H' → Rel K ct H0 S' ⟨s.env, M'⟩ σ H' → XOk K S' M'.length H' x dd → E (.ref (ct x.cls)) dd H')
    (hQ : ∀ a M', f = .ok a M' → ∀ S' v H', Stp S s.M.length H S' M'.length H' → Rel K ct H0 S' ⟨s.env, M'⟩ σ H' → ItOk K ct H S' ⟨s.env, M'⟩ σ H' v a → Q v H') (hn : f ≠ .no) : FPst K ct S.hide s.M H Q E f := by
  cases f with
  | no => exact absurd rfl hn
  | er x M' =>
      intro S' H' dd st r' xo
      obtain ⟨k1, k2⟩ := rel.back st r'
      exact hE x M' rfl (S.back S') H' dd k2 k1 xo
  | ok a M' =>
      intro S' v H' st r' it
      obtain ⟨k1, k2⟩ := rel.back st r'
      refine hQ a M' rfl (S.back S') v H' k2 k1 ?_
      cases a with
      | val d => exact it
      | slot j => simp [ItOk] at it
      | new c =>
        obtain ⟨p, rfl, h1, h2, h3, h4, h5⟩ := it
        refine ⟨p, rfl, h1, ?_, h3, h4, h5.mono (fun _ _ e => e) (fun _ _ => rfl) (Nat.le_refl _) (fun _ e => e)⟩
        rw [back_else (fun i z => by have := rel.labN h1; rw [z] at this; cases this), h2]
theorem ei_callN {f : Mf} {E : XK} {t : TA} {m : Mo (List D)} (h : EvL K ct H0 W t m) : Ei K ct H0 W (tCallZ (spM K ct f) E t) (mCallN f m) := fun S s σ H Q rel p =>
  h S s σ H _ rel (Pst.bind bI p fun S1 s1 H1 vs ds st1 rel1 i1 p1 => ⟨S1.hide, s1.M, ds, rel1.hide, i1, by
    generalize hf : f ds s1.M = r at p1
    cases r with
    | no => exact False.elim p1
    | er x M' => exact False.elim p1
    | ok a M' => exact fpst_of rel1 (fun x M' e => by cases e) (fun a' M'' e S' v H' st rl it => by cases e; exact p1 S' v H' st rl it) (fun e => by cases e)⟩)
theorem ei_callS {f : Mf} {t : TA} {m : Mo (List D)} (h : EvL K ct H0 W t m) : Ei K ct H0 W (tCallS (spM K ct f) (WE W) t) (mCall f m) := fun S s σ H Q rel p =>
  h S s σ H _ rel (Pst.bind bI p fun S1 s1 H1 vs ds st1 rel1 i1 p1 => ⟨S1.hide, s1.M, ds, rel1.hide, i1, by
    generalize hf : f ds s1.M = r at p1
    cases r with
    | no => exact False.elim p1
    | er x M' => exact fpst_of rel1 (fun x' M'' e S' H' dd st rl xo => by cases e; exact p1 S' H' dd st rl xo) (fun a' M'' e => by cases e) (fun e => by cases e)
    | ok a M' => exact fpst_of rel1 (fun x M' e => by cases e) (fun a' M'' e S' v H' st rl it => by cases e; exact p1 S' v H' st rl it) (fun e => by cases e)⟩)
end
end Y
namespace Y
open PySem L2 Z
section
variable {X : Cx}
def rIntY : List V → Hp → VK → Prop := fun xs H Q => ((∃ i, xs = [.int i] ∧ Q (.int i) H) ∨ ∃ k, xs = [.bl k] ∧ Q (.int (if k then 1 else 0)) H) ∨ ∃ a n, xs = [.str a] ∧ PySem.intText? a = some n ∧ a.length ≤ 640 ∧ Q (.int n) H
theorem call_intY : CallR X (.type "int") rIntY := L2.CallR.or call_int1 call_int_str
def rStrY : List V → Hp → VK → Prop := fun xs H Q => ∃ i, xs = [.int i] ∧ i.natAbs.log2 < 1920 ∧ Q (.str (toString i)) H
theorem call_strY : CallR X (.type "str") rStrY := call_str_int
theorem PSet.or {t t' : TSet} (h : PSet X t) (h' : PSet X t') : PSet X (fun o i v H Q => t o i v H Q ∨ t' o i v H Q) := by
  intro pins s σ H o i v ov iv u Q I ro ri rv q
  rcases q with q | q
  · exact h pins s σ H o i v ov iv u Q I ro ri rv q
  · exact h' pins s σ H o i v ov iv u Q I ro ri rv q
def rSetY : TSet := fun o i v H Q => rSetL o i v H Q ∨ rSetD o i v H Q
theorem set_Y (hu : X.A.units + 1 < cLine) : PSet X rSetY := PSet.or set_list (set_dict hu)
end
section
variable {K : PySem.W.Frag} {ct : Ct} {H0 : Hp} {W : WX} {S : Sh} {s : Stt} {σ : St} {H : Hp}
theorem cr_ty {n : String} : CR K (.ty n) (.ty n) := fun _ _ _ => .ty n
def fNeg : Stt → AI → Ro AI := fun s a => match a with
  | .val (.int i) => .ok (.val (.int (-i))) s
  | _ => .no
theorem j_neg : J1 K ct H0 (rU fun i => .int (-i)) fNeg := fun W S s σ H Hs x a Q rel ia p => by
  unfold fNeg at p
  split at p
  · rename_i i
    cases rp_int ia
    exact ⟨i, rfl, p.val rel (.int _)⟩
  · exact False.elim p
def fInt (s : Stt) (as : List AI) : Ro AI := match as with
  | [.val (.int i)] => .ok (.val (.int i)) s
  | [.val (.bl k)] => .ok (.val (.int (if k then 1 else 0))) s
  | [.val (.str x)] => match PySem.intText? x with
    | some n => if x.length ≤ 640 then .ok (.val (.int n)) s else .no
    | none => .no
  | _ => .no
theorem jb_int : JB K ct H0 rIntY fInt := fun W S s σ H Hs vs as Q rel ia p => by
  unfold fInt at p
  split at p
  · rename_i i
    obtain ⟨v, rfl, h⟩ := as1 ia
    cases rp_int h
    exact .inl (.inl ⟨i, rfl, p.val rel (.int _)⟩)
  · rename_i k
    obtain ⟨v, rfl, h⟩ := as1 ia
    cases rp_bl h
    exact .inl (.inr ⟨k, rfl, p.val rel (.int _)⟩)
  · rename_i x
    obtain ⟨v, rfl, h⟩ := as1 ia
    cases rp_str h
    split at p
    · rename_i n e
      split at p
      · rename_i hz
        exact .inr ⟨x, n, rfl, e, hz, p.val rel (.int _)⟩
      · exact False.elim p
    · exact False.elim p
  · exact False.elim p
def fStr (s : Stt) (as : List AI) : Ro AI := match as with
  | [.val (.int i)] => if i.natAbs.log2 < 1920 then .ok (.val (.str (toString i))) s else .no
  | _ => .no
theorem jb_str : JB K ct H0 rStrY fStr := fun W S s σ H Hs vs as Q rel ia p => by
  unfold fStr at p
  split at p
  · rename_i i
    obtain ⟨v, rfl, h⟩ := as1 ia
    cases rp_int h
    split at p
    · rename_i hz
      exact ⟨i, rfl, hz, p.val rel (.str _)⟩
    · exact False.elim p
  · exact False.elim p
def mAug (i : Nat) (f : Int → Int → Int) (m : Mo AI) : Ms := fun s => match entAt s i with
  | some (.fz (.int x)) => (m s).toS fun a s1 => match a with
    | .val (.int y) => .nx ⟨s1.env.set i (some (.fz (.int (f x y)))), s1.M⟩
    | _ => .no
  | _ => .no
theorem sv_aug {i : Nat} {f : Int → Int → Int} {te : TE} {m : Mo AI} (h : Ei K ct H0 W te m) : Sv K ct H0 W (tAug i te (ipI f)) (mAug i f m) := fun S s σ H Dn rel p => by
  unfold mAug at p
  split at p
  · rename_i x e
    obtain ⟨v, h1, h2⟩ := rel.slot i _ (entAt_eq e)
    cases rp_int h2
    refine ⟨.int x, h1, h S s σ H _ rel (PstS.bind p fun S1 s1 H1 y a st1 rel1 i1 p1 => ?_)⟩
    split at p1
    · rename_i j
      cases rp_int i1
      exact ⟨x, j, rfl, rfl, p1 (S1.un i) _ H1 (st1.trans .un) (rel1.setFz (.int _))⟩
    · exact False.elim p1
  · exact False.elim p
def keyOf : D → Option Key
  | .int i => some (.inl i)
  | .str x => some (.inr x)
  | _ => none
theorem keyOf_rp {G : Hp} {α : Nat → Addr} {n : Nat} {v : V} {d : D} {k : Key} (h : Rp K G α n v d) (e : keyOf d = some k) : v = kV k := by
  cases h <;> first | (cases e; rfl) | cases e
/-- o[i] = d -/
def setIt (a : AI) (i d : D) (s : Stt) : Option Stt := match getC s a with
  | some (.lst l) => match i with
    | .int k => (ixN l.length k).map fun j => setC s a (.lst (l.set j d))
    | _ => none
  | some (.dK l) => (keyOf i).bind fun k => if l.length < sizeLine then some (setC s a (.dK (pu l k d))) else none
  | _ => none
theorem setIt_ok {Hs : Hp} {x y v : V} {a : AI} {i d : D} {s' : Stt} {Q : Hp → Prop} (rel : Rel K ct H0 S s σ H) (ia : ItOk K ct Hs S s σ H x a) (ii : Rp K S.G S.α s.M.length y i) (id : Rp K S.G S.α s.M.length v d) (e : setIt a i d s = some s')
    (q : ∀ H', Stp S s.M.length H S s'.M.length H' → Rel K ct H0 S s' σ H' → Q H') : rSetY x y v H Q := by
  unfold setIt at e
  split at e
  · rename_i l eg
    split at e
    · rename_i k
      cases rp_int ii
      obtain ⟨j, e1, rfl⟩ := Option.map_eq_some_iff.mp e
      obtain ⟨p, rfl, ⟨us, h1, h2⟩, h3⟩ := mut_ok rel ia eg
      obtain ⟨r1, r2⟩ := h3 (.lst (us.set j v)) (.lst (l.set j d)) (fun _ => rfl) ⟨_, upd_same, h2.set id j⟩
      exact .inl ⟨p, us, k, j, rfl, rfl, h1, by rw [h2.length]; exact e1, q _ r2 r1⟩
    · cases e
  · rename_i l eg
    obtain ⟨k, e1, e2⟩ := Option.bind_eq_some_iff.mp e
    split at e2
    · rename_i hz
      cases e2
      obtain ⟨p, rfl, ⟨us, h1, h3, h2⟩, h4⟩ := mut_ok rel ia eg
      have rk := RpK.of h3 h2
      have rk' := rk.put (k := k) id
      obtain ⟨r1, r2⟩ := h4 (.dK (putK us k v)) (.dK (pu l k d)) (fun _ => rfl) ⟨_, upd_same, rk'.keys, rk'.vals⟩
      rw [keyOf_rp ii e1]
      exact .inr ⟨p, _, rfl, DPut.k h1 (by rw [rk.len]; exact hz), q _ r2 r1⟩
    · cases e2
  · cases e
def mAsgS (mo mi : Mo AI) (mv : Mo AI) : Ms := fun s => (mV mv s).toS fun d s1 => (mo s1).toS fun a s2 => (mV mi s2).toS fun i s3 => match setIt a i d s3 with
  | some s4 => .nx s4
  | none => .no
theorem sv_asgS {te to ti : TE} {mo mi mv : Mo AI} (hv : Ei K ct H0 W te mv) (ho : Ei K ct H0 W to mo) (hi : Ei K ct H0 W ti mi) : Sv K ct H0 W (tAsg te (gSub to ti rSetY)) (mAsgS mo mi mv) := fun S s σ H Dn rel p =>
  ev_of hv S s σ H _ rel (PstS.bind p fun S1 s1 H1 v d st1 rel1 i1 p1 => ho S1 s1 σ H1 _ rel1 (PstS.bind (PstS.from p1 st1) fun S2 s2 H2 x a st2 rel2 i2 p2 => ev_of hi S2 s2 σ H2 _ rel2 (PstS.bind (PstS.from p2 st2) fun S3 s3 H3 y i st3 rel3 i3 p3 => by
    have p3 := PstS.from p3 st3
    split at p3
    · rename_i s4 e
      exact setIt_ok rel3 (i2.step st3) i3 (Rp.step (st2.trans st3) i1) e fun H' st rl => p3 S3 σ H' st rl
    · exact False.elim p3)))
def mDNew : Mo AI := fun s => .ok (.new (.dK [])) s
theorem ei_dnew : Ei K ct H0 W tDNewK mDNew := fun S s σ H Q rel p q hq => p.newC rel hq rfl ⟨[], upd_same, rfl, .nil⟩
/-- d.pop(k), k is there -/
def fPop (s : Stt) (a : AI) (i : D) : Ro AI := match getC s a with
  | some (.dK l) => match (keyOf i).bind fun k => (vl l k).map fun d => (k, d) with
    | some (k, d) => .ok (.val d) (setC s a (.dK (dr l k)))
    | none => .no
  | _ => .no
def mPop (mo mi : Mo AI) : Mo AI := fun s => (mo s).bind fun a s1 => match viewD s1 a with
  | some _ => (mV mi s1).bind fun i s2 => fPop s2 a i
  | none => .no
/-- d.get(k), d.get(k, x) -/
def fGet (s : Stt) (a : AI) (i x : D) : Ro AI := match viewD s a with
  | some l => match keyOf i with
    | some k => .ok (.val ((vl l k).getD x)) s
    | none => .no
  | none => .no
def mGet2 (mo mi mx : Mo AI) : Mo AI := fun s => (mo s).bind fun a s1 => match viewD s1 a with
  | some _ => (mV mi s1).bind fun i s2 => (mV mx s2).bind fun x s3 => fGet s3 a i x
  | none => .no
end
end Y
namespace Y
open PySem L2 Z
theorem u65 {A : Around} {k : Nat} (hr : Room k A) : A.units + 65 < cLine := by have := hr.un; omega
theorem u66 {A : Around} {k : Nat} (hr : Room k A) : A.units + 70 < cLine := by have := hr.un; omega
theorem rpl_ints {K : PySem.W.Frag} {G : Hp} {α : Nat → Addr} {n : Nat} : ∀ ns : List Int, RpL K G α n (ns.map V.int) (ns.map D.int)
  | [] => .nil
  | i :: ns => .cons (.int i) (rpl_ints ns)
end Y
namespace Y
open PySem L2 Z
def So {α : Type} (P : α → Prop) : Option α → Prop
  | some s => P s
  | none => False
def Ok {α : Type} (P : α → Stt → Prop) : Ro α → Prop
  | .ok a s => P a s
  | _ => False
def Fo (P : AI → List Cn → Prop) : Fr → Prop
  | .ok a M => P a M
  | _ => False
theorem chk_none {s : Stt} : chk none s := trivial
theorem forN_nil {g : Tg} {b : Ms} {s : Stt} : forN g b none [] s = .nx s := by unfold forN; rw [if_pos chk_none]
theorem forN_cons {g : Tg} {b : Ms} {s s1 : Stt} {x : D} {xs : List D} (h : g x s = some s1) : forN g b none (x :: xs) s = (match b s1 with
      | .nx s2 => forN g b none xs s2
      | .ct s2 => forN g b none xs s2
      | .bk s2 => .nx s2
      | .rt a s2 => .rt a s2
      | .er x s2 => .er x s2
      | .no => .no) := by
  conv => lhs; unfold forN
  rw [if_pos chk_none, h] <;> rfl
/-- a comprehension, by what holds of each part: the state comes back -/
theorem lc_map {ws : List Nat} {g : Tg} {e : Mo D} {s : Stt} {xs : List D} (f : D → D) (hz : xs.length ≤ sizeLine) (h : ∀ x ∈ xs, So (fun s1 => Ok (fun d s2 => d = f x ∧ wipeS ws s2 = s) (e s1)) (g x s)) : ∀ acc : List D, acc.length + xs.length ≤ sizeLine → lcN ws g mYes e none xs acc s = .ok (acc ++ xs.map f) s := by
  induction xs with
  | nil => intro acc _; unfold lcN; rw [if_pos chk_none, List.map_nil, List.append_nil]
  | cons x xs ih =>
    intro acc ha
    have h1 := h x (by simp)
    unfold lcN
    rw [if_pos chk_none]
    cases hg : g x s with
    | none => rw [hg] at h1; exact False.elim h1
    | some s1 =>
      rw [hg] at h1
      have h1 : Ok (fun d s2 => d = f x ∧ wipeS ws s2 = s) (e s1) := h1
      show (if true = true then (match e s1 with | .ok d s3 => if acc.length < sizeLine then lcN ws g mYes e none xs (acc ++ [d]) (wipeS ws s3) else .no | _ => .no) else _) = _
      rw [if_pos rfl]
      cases he : e s1 with
      | no => rw [he] at h1; exact False.elim h1
      | er x s2 => rw [he] at h1; exact False.elim h1
      | ok d s2 =>
        rw [he] at h1
        obtain ⟨rfl, h3⟩ := h1
        have hl : acc.length < sizeLine := by rw [List.length_cons] at ha; omega
        show (if acc.length < sizeLine then lcN ws g mYes e none xs (acc ++ [f x]) (wipeS ws s2) else .no) = _
        rw [if_pos hl, h3, ih (by rw [List.length_cons] at hz; omega) (fun y hy => h y (by simp [hy])) _ (by rw [List.length_append, List.length_cons, List.length_nil]; rw [List.length_cons] at ha; omega), List.append_assoc]
        rfl
/-- .. by an invariant (the state may change; what is told of the items) -/
theorem lc_inv {ws : List Nat} {g : Tg} {e : Mo D} {s : Stt} {xs : List D} (P : Nat → List D → Stt → Prop) (acc : List D) (h0 : P 0 acc s) (hz : acc.length + xs.length ≤ sizeLine) (h : ∀ i x acc s, xs[i]? = some x → P i acc s → So (fun s1 => Ok (fun d s2 => P (i + 1) (acc ++ [d]) (wipeS ws s2)) (e s1)) (g x s)) : ∃ l s', lcN ws g mYes e none xs acc s = .ok l s' ∧ P xs.length l s' := by
  induction xs generalizing P acc s with
  | nil => exact ⟨acc, s, by unfold lcN; rw [if_pos chk_none], h0⟩
  | cons x xs ih =>
    have h1 := h 0 x acc s rfl h0
    unfold lcN
    rw [if_pos chk_none]
    cases hg : g x s with
    | none => rw [hg] at h1; exact False.elim h1
    | some s1 =>
      rw [hg] at h1
      have h1 : Ok (fun d s2 => P 1 (acc ++ [d]) (wipeS ws s2)) (e s1) := h1
      show ∃ l s', (if true = true then (match e s1 with | .ok d s3 => if acc.length < sizeLine then lcN ws g mYes e none xs (acc ++ [d]) (wipeS ws s3) else .no | _ => .no) else _) = _ ∧ _
      rw [if_pos rfl]
      cases he : e s1 with
      | no => rw [he] at h1; exact False.elim h1
      | er x s2 => rw [he] at h1; exact False.elim h1
      | ok d s2 =>
        rw [he] at h1
        have hl : acc.length < sizeLine := by rw [List.length_cons] at hz; omega
        show ∃ l s', (if acc.length < sizeLine then lcN ws g mYes e none xs (acc ++ [d]) (wipeS ws s2) else .no) = _ ∧ _
        rw [if_pos hl]
        exact ih (fun i => P (i + 1)) (acc ++ [d]) h1 (by rw [List.length_append, List.length_cons, List.length_nil]; rw [List.length_cons] at hz; omega) fun i y acc s e => h (i + 1) y acc s e
theorem intsD_map (ns : List Int) : intsD (ns.map D.int) = some ns := by
  induction ns with
  | nil => rfl
  | cons n ns ih => show (intsD (ns.map D.int)).map (n :: ·) = _; rw [ih]; rfl
theorem blsD_map (ns : List Bool) : blsD (ns.map D.bl) = some ns := by
  induction ns with
  | nil => rfl
  | cons n ns ih => show (blsD (ns.map D.bl)).map (n :: ·) = _; rw [ih]; rfl
theorem pyL_ints (ns : List Int) : D.pyL (ns.map D.int) = some (ns.map PyData.int) := by
  induction ns with
  | nil => rfl
  | cons n ns ih => show (D.py (.int n)).bind (fun x => (D.pyL (ns.map D.int)).map (x :: ·)) = _; rw [ih]; rfl
theorem atI_map {β : Type} (f : β → D) (l : List β) (i : Int) : atI (l.map f) i = (atI l i).map f := by
  unfold atI
  rw [List.length_map]
  cases ixN l.length i with
  | none => rfl
  | some j => show (l.map f)[j]? = (l[j]?).map f; rw [List.getElem?_map]
theorem atI_nn {β : Type} {l : List β} {i : Int} (h : 0 ≤ i) : atI l i = l[i.toNat]? := by
  unfold atI ixN
  rw [if_pos h]
  by_cases q : i < l.length
  · rw [if_pos q]; rfl
  · rw [if_neg q]; show none = _; rw [List.getElem?_eq_none_iff.mpr (by omega)]
theorem atI_int {ns : List Int} {i : Int} (h0 : 0 ≤ i) (h1 : i < ns.length) : atI (ns.map D.int) i = some (.int (ns.getD i.toNat 0)) := by
  rw [atI_nn h0, List.getElem?_map, List.getElem?_eq_getElem (by omega : i.toNat < ns.length)]
  simp [List.getD, (by omega : i.toNat < ns.length)]
theorem cutL_from {β : Type} (xs : List β) {i : Int} (h : 0 ≤ i) : cutL xs (some i) none = xs.drop i.toNat := by
  unfold cutL
  have e1 : HT.sIx xs.length xs.length none = xs.length := rfl
  have e2 : HT.sIx xs.length 0 (some i) = min i.toNat xs.length := if_neg (by omega)
  rw [e1, e2]
  by_cases l : i.toNat ≤ xs.length
  · rw [Nat.min_eq_left l, List.take_of_length_le (by rw [List.length_drop]; exact Nat.le_refl _)]
  · rw [Nat.min_eq_right (by omega), Nat.sub_self, List.take_zero, List.drop_eq_nil_of_le (by omega)]
theorem cutL_to {β : Type} (xs : List β) {i : Int} (h : 0 ≤ i) : cutL xs none (some i) = xs.take i.toNat := by
  unfold cutL
  have e1 : HT.sIx xs.length 0 none = 0 := rfl
  have e2 : HT.sIx xs.length xs.length (some i) = min i.toNat xs.length := if_neg (by omega)
  rw [e1, e2, List.drop_zero, Nat.sub_zero]
  by_cases l : i.toNat ≤ xs.length
  · rw [Nat.min_eq_left l]
  · rw [Nat.min_eq_right (by omega), List.take_of_length_le (Nat.le_refl _), List.take_of_length_le (by omega)]
theorem cutL_part {β : Type} (xs : List β) {i j : Int} (h : 0 ≤ i) (h' : 0 ≤ j) : cutL xs (some i) (some j) = (xs.drop i.toNat).take (j.toNat - i.toNat) := by
  unfold cutL
  have e1 : HT.sIx xs.length xs.length (some j) = min j.toNat xs.length := if_neg (by omega)
  have e2 : HT.sIx xs.length 0 (some i) = min i.toNat xs.length := if_neg (by omega)
  rw [e1, e2]
  by_cases l : i.toNat ≤ xs.length
  · rw [Nat.min_eq_left l]
    by_cases l2 : j.toNat ≤ xs.length
    · rw [Nat.min_eq_left l2]
    · rw [Nat.min_eq_right (by omega), List.take_of_length_le (by rw [List.length_drop]; exact Nat.le_refl _), List.take_of_length_le (by rw [List.length_drop]; omega)]
  · rw [Nat.min_eq_right (a := i.toNat) (by omega), List.drop_eq_nil_of_le (Nat.le_refl _), List.drop_eq_nil_of_le (by omega), List.take_nil, List.take_nil]
theorem rng_get {lo : Int} {n i : Nat} {d : D} (h : (rng lo n)[i]? = some d) : i < n ∧ d = .int (lo + i) := by
  unfold rng at h
  rw [List.getElem?_map] at h
  obtain ⟨j, e1, rfl⟩ := Option.map_eq_some_iff.mp h
  obtain ⟨hlt, ej⟩ := List.getElem?_eq_some_iff.mp e1
  rw [List.getElem_range] at ej
  rw [List.length_range] at hlt
  subst ej
  exact ⟨hlt, rfl⟩
theorem rng_len {lo : Int} {n : Nat} : (rng lo n).length = n := by unfold rng; rw [List.length_map, List.length_range]
theorem map_get {β : Type} {f : β → D} {l : List β} {i : Nat} {d : D} (h : (l.map f)[i]? = some d) : ∃ x, l[i]? = some x ∧ d = f x := by
  rw [List.getElem?_map] at h
  obtain ⟨x, e, rfl⟩ := Option.map_eq_some_iff.mp h
  exact ⟨x, e, rfl⟩
theorem enum_get {l : List D} {i : Nat} {d : D} (h : (enumL l)[i]? = some d) : ∃ x, l[i]? = some x ∧ d = .tup [.int (i : Nat), x] := by
  unfold enumL at h
  rw [List.getElem?_map, List.getElem?_zipIdx] at h
  obtain ⟨pr, e2, rfl⟩ := Option.map_eq_some_iff.mp h
  obtain ⟨y, e3, rfl⟩ := Option.map_eq_some_iff.mp e2
  exact ⟨y, e3, by rw [Nat.zero_add]⟩
theorem enum_len {l : List D} : (enumL l).length = l.length := by unfold enumL; rw [List.length_map, List.length_zipIdx]
theorem eqv_int (i j : Int) : PyData.eqv (.int i) (.int j) = decide (i = j) := by
  show (i == j) = _
  by_cases h : i = j
  · subst h; simp
  · simp [h]
theorem eqv_lints (ns ms : List Int) : PyData.eqv (.list (ns.map PyData.int)) (.list (ms.map PyData.int)) = decide (ns = ms) := Z.eqv_ints ns ms
theorem shaped_lints (ns : List Int) : SeqAt.shaped (.list (ns.map PyData.int)) = true := Z.shaped_ints ns
end Y
namespace Y
open PySem L2 Z
def Wo {α : Type} (Q : α → Stt → Prop) (X : Exn → Stt → Prop) : Ro α → Prop
  | .ok a s => Q a s
  | .er x s => X x s
  | .no => False
def Ws (N : Stt → Prop) (O : Rs → Prop) : Rs → Prop
  | .nx s => N s
  | .no => False
  | r => O r
abbrev Xf : Exn → Stt → Prop := fun _ _ => False
section
variable {α β : Type} {Q : α → Stt → Prop} {QA : AI → Stt → Prop} {QD : D → Stt → Prop} {QL : List AI → Stt → Prop} {QV : List D → Stt → Prop} {QB : Bool → Stt → Prop} {QO : Option Int → Stt → Prop} {QI : Im → Stt → Prop} {X : Exn → Stt → Prop} {N : Stt → Prop} {O : Rs → Prop} {s : Stt} {i j : Nat} {m m1 m2 m3 : Mo AI} {env : List (Option Ent)} {M : List Cn}
theorem w_bind {r : Ro β} {f : β → Mo α} (h : Wo (fun a s => Wo Q X (f a s)) X r) : Wo Q X (r.bind f) := by cases r <;> exact h
theorem w_toS {r : Ro β} {f : β → Ms} (h : Wo (fun a s => Ws N O (f a s)) (fun x s => O (.er x s)) r) : Ws N O (r.toS f) := by cases r <;> exact h
theorem w_mono {Q' : α → Stt → Prop} {r : Ro α} (h : Wo Q X r) (k : ∀ a s, Q a s → Q' a s) : Wo Q' X r := by
  cases r with
  | ok a s => exact k _ _ h
  | er x s => exact h
  | no => exact h
theorem w_seq {a b : Ms} (h : Ws (fun s1 => Ws N O (b s1)) O (a s)) : Ws N O (mSeq a b s) := by
  unfold mSeq
  cases q : a s <;> rw [q] at h <;> exact h
/-- the ways meet again at R -/
theorem w_join {a b : Ms} (R : Stt → Prop) (h : Ws R O (a s)) (k : ∀ s, R s → Ws N O (b s)) : Ws N O (mSeq a b s) := by
  unfold mSeq
  cases q : a s with
  | nx s1 => rw [q] at h; exact k s1 h
  | _ => rw [q] at h; exact h
theorem w_next (h : N s) : Ws N O (mNext s) := h
theorem w_drop (h : Wo (fun _ s1 => N s1) (fun x s => O (.er x s)) (m s)) : Ws N O (mDrop m s) := w_toS h
theorem w_ifS {c : Mo Bool} {a b : Ms} (h : Wo (fun k s1 => if k = true then Ws N O (a s1) else Ws N O (b s1)) (fun x s => O (.er x s)) (c s)) : Ws N O (mIfS c a b s) := w_toS (w_mono h fun k s h => by cases k <;> exact h)
theorem w_asg (h : Wo (fun a s1 => Ws N O (asg i a s1)) (fun x s => O (.er x s)) (m s)) : Ws N O (mAsg i m s) := w_toS h
theorem w_asgV {d : D} (h : N ⟨s.env.set i (some (.fz d)), s.M⟩) : Ws N O (asg i (.val d) s) := h
theorem w_asgN {c : Cn} (h : N ⟨s.env.set i (some (.ow c)), s.M⟩) : Ws N O (asg i (.new c) s) := h
theorem w_asgI {c : Cn} (e : entAt s j = some (.ow c)) (h : N ⟨(s.env.set j (some (.fz c.toD))).set i (some (.fz c.toD)), s.M⟩) : Ws N O (asg i (.slot j) s) := by
  show Ws N O ((match entAt s j with | some (.ow c) => Ro.ok c.toD ⟨s.env.set j (some (.fz c.toD)), s.M⟩ | some (.fz d) => Ro.ok d s | _ => Ro.no).toS fun d s1 => .nx ⟨s1.env.set i (some (.fz d)), s1.M⟩)
  rw [e]; exact h
theorem w_ret (h : Wo (fun a s1 => Ws N O (Y.ret a s1)) (fun x s => O (.er x s)) (m s)) : Ws N O (mRet m s) := w_toS h
theorem w_retV {d : D} (h : O (.rt (.val d) s)) : Ws N O (Y.ret (.val d) s) := h
theorem w_retN' {c : Cn} (h : O (.rt (.new c) s)) : Ws N O (Y.ret (.new c) s) := h
theorem w_retS {c : Cn} (e : entAt s j = some (.ow c)) (h : O (.rt (.new c) ⟨s.env.set j none, s.M⟩)) : Ws N O (Y.ret (.slot j) s) := by
  show Ws N O (match entAt s j with | some (.ow c) => .rt (.new c) ⟨s.env.set j none, s.M⟩ | some (.fz d) => .rt (.val d) s | _ => .no)
  rw [e]; exact h
theorem w_retN (h : O (.rt (.val .non) s)) : Ws N O (mRetN s) := h
theorem w_nameF {d : D} (e : entAt s i = some (.fz d)) (h : QA (.val d) s) : Wo QA X (mName i s) := by unfold mName; rw [e]; exact h
theorem w_nameO {c : Cn} (e : entAt s i = some (.ow c)) (h : QA (.slot i) s) : Wo QA X (mName i s) := by unfold mName; rw [e]; exact h
theorem w_c {d : D} (h : QA (.val d) s) : Wo QA X (mC d s) := h
theorem w_op {f : Stt → AI → AI → Ro AI} (h : Wo (fun a s1 => Wo (fun b s2 => Wo QA X (f s2 a b)) X (m2 s1)) X (m1 s)) : Wo QA X (mOp f m1 m2 s) := w_bind (w_mono h fun _ _ h => w_bind h)
theorem w_un {f : Stt → AI → Ro AI} (h : Wo (fun a s1 => Wo QA X (f s1 a)) X (m1 s)) : Wo QA X (mUn f m1 s) := w_bind h
theorem w_I0 {g : Int → Int → D} {i j : Int} (h : QA (.val (g i j)) s) : Wo QA X (fI0 g s (.val (.int i)) (.val (.int j))) := h
theorem w_I {C : Int → Int → Prop} {g : Int → Int → D} {i j : Int} (c : C i j) (h : QA (.val (g i j)) s) : Wo QA X (fI C g s (.val (.int i)) (.val (.int j))) := by
  unfold fI; simp only []; rw [if_pos c]; exact h
theorem w_addI {i j : Int} (h : QA (.val (.int (i + j))) s) : Wo QA X (fAdd s (.val (.int i)) (.val (.int j))) := h
theorem w_addS {x y : Str} (c : x.length + y.length ≤ sizeLine) (h : QA (.val (.str (x ++ y))) s) : Wo QA X (fAdd s (.val (.str x)) (.val (.str y))) := by
  unfold fAdd; simp only []; rw [if_pos c]; exact h
def noS : AI → Bool
  | .val (.int _) => false
  | .val (.str _) => false
  | _ => true
theorem w_addL {a b : AI} {l l' : List D} (n : noS a = true) (e1 : viewL s a = some l) (e2 : viewL s b = some l') (c : l.length + l'.length ≤ sizeLine) (h : QA (.new (.lst (l ++ l'))) s) : Wo QA X (fAdd s a b) := by
  unfold fAdd
  split
  · cases n
  · cases n
  · rw [e1, e2]; simp only []; rw [if_pos c]; exact h
theorem w_mulI {i j : Int} (c : CMul i j) (h : QA (.val (.int (i * j))) s) : Wo QA X (fMul s (.val (.int i)) (.val (.int j))) := by
  unfold fMul; simp only []; rw [if_pos c]; exact h
theorem w_eqI {i j : Int} (h : QA (.val (.bl (decide (i = j)))) s) : Wo QA X (fEq s (.val (.int i)) (.val (.int j))) := by
  show Wo QA X (.ok (.val (.bl (PyData.eqv (.int i) (.int j)))) s)
  rw [eqv_int]; exact h
theorem w_neI {i j : Int} (h : QA (.val (.bl (!decide (i = j)))) s) : Wo QA X (fNe s (.val (.int i)) (.val (.int j))) := by
  show Wo QA X (.ok (.val (.bl (!PyData.eqv (.int i) (.int j)))) s)
  rw [eqv_int]; exact h
theorem w_eq {a b : AI} {k : Bool} (e : eqOf s a b = some k) (h : QA (.val (.bl k)) s) : Wo QA X (fEq s a b) := by unfold fEq; rw [e]; exact h
theorem w_ne {a b : AI} {k : Bool} (e : eqOf s a b = some k) (h : QA (.val (.bl (!k))) s) : Wo QA X (fNe s a b) := by unfold fNe; rw [e]; exact h
theorem eqOf_of {a b : AI} {x y : PyData} {k : Bool} (e1 : pyOf s a = some x) (e2 : pyOf s b = some y) (h1 : SeqAt.shaped x = true) (h2 : SeqAt.shaped y = true) (e : x.eqv y = k) : eqOf s a b = some k := by
  unfold eqOf; rw [e1, e2]; show (if SeqAt.shaped x && SeqAt.shaped y then some (x.eqv y) else none) = _
  rw [h1, h2, e]; rfl
theorem py_ints {d : D} {ns : List Int} (h : d = .lst (ns.map D.int) ∨ d = .clst (ns.map D.int)) : d.py = some (.list (ns.map PyData.int)) := by
  rcases h with rfl | rfl
  · show (D.pyL (ns.map D.int)).map PyData.list = _; rw [pyL_ints]; rfl
  · show (D.pyL (ns.map D.int)).map PyData.list = _; rw [pyL_ints]; rfl
theorem eqOf_ints {a b : AI} {d d' : D} {ns ms : List Int} (e1 : (look s a).bind (deref s.M) = some d) (e2 : (look s b).bind (deref s.M) = some d') (h1 : d = .lst (ns.map D.int) ∨ d = .clst (ns.map D.int)) (h2 : d' = .lst (ms.map D.int) ∨ d' = .clst (ms.map D.int)) : eqOf s a b = some (decide (ns = ms)) := by
  refine eqOf_of (x := .list (ns.map PyData.int)) (y := .list (ms.map PyData.int)) ?_ ?_ (shaped_lints ns) (shaped_lints ms) (eqv_lints ns ms)
  · unfold pyOf; rw [e1]; exact py_ints h1
  · unfold pyOf; rw [e2]; exact py_ints h2
theorem w_isB {x y : Bool} (h : QA (.val (.bl (x == y))) s) : Wo QA X (fIs s (.val (.bl x)) (.val (.bl y))) := h
theorem w_isnB {x y : Bool} (h : QA (.val (.bl (!(x == y)))) s) : Wo QA X (fIsn s (.val (.bl x)) (.val (.bl y))) := h
theorem isOf_n {a : AI} {d : D} (e : look s a = some d) : isOf s a (.val .non) = some d.isN := by
  unfold isOf
  split
  · rename_i h; cases h
  · rw [e]; rfl
  · rename_i h1 h2; first | exact (h1 rfl).elim | exact (h2 rfl).elim
theorem w_isN {a : AI} {d : D} (e : look s a = some d) (h : QA (.val (.bl d.isN)) s) : Wo QA X (fIs s a (.val .non)) := by unfold fIs; rw [isOf_n e]; exact h
theorem w_isnN {a : AI} {d : D} (e : look s a = some d) (h : QA (.val (.bl (!d.isN))) s) : Wo QA X (fIsn s a (.val .non)) := by unfold fIsn; rw [isOf_n e]; exact h
theorem w_ixL {a : AI} {l : List D} {i : Int} {d : D} (n : noS a = true) (e0 : viewD s a = none) (e1 : viewL s a = some l) (e2 : atI l i = some d) (h : QA (.val d) s) : Wo QA X (fIxY s a (.val (.int i))) := by
  unfold fIxY; rw [e0]; simp only []
  unfold fIx; simp only []
  split
  · cases n
  · rw [e1]; simp only []; rw [e2]; exact h
theorem w_ixT {a : AI} {l : List D} {i : Int} {d : D} (n : noS a = true) (e0 : viewD s a = none) (e3 : viewL s a = none) (e1 : viewT s a = some l) (e2 : atI l i = some d) (h : QA (.val d) s) : Wo QA X (fIxY s a (.val (.int i))) := by
  unfold fIxY; rw [e0]; simp only []
  unfold fIx; simp only []
  split
  · cases n
  · rw [e3]; simp only []; rw [e1]; simp only []; rw [e2]; exact h
theorem w_ixI {a : AI} {ns : List Int} {i : Int} (n : noS a = true) (e0 : viewD s a = none) (e1 : viewL s a = some (ns.map D.int)) (h0 : 0 ≤ i) (h1 : i < ns.length) (h : QA (.val (.int (ns.getD i.toNat 0))) s) : Wo QA X (fIxY s a (.val (.int i))) := w_ixL n e0 e1 (atI_int h0 h1) h
theorem w_ixK {a : AI} {l : List (Key × D)} {i : D} {k : Key} {d : D} (e0 : viewD s a = some l) (ek : keyOf i = some k) (e : vl l k = some d) (h : QA (.val d) s) : Wo QA X (fIxY s a (.val i)) := by
  unfold fIxY; rw [e0]; simp only []
  cases i <;> first | (cases ek; simp only []; rw [e]; exact h) | cases ek
theorem w_tru (h : Wo (fun a s1 => ∃ d b, look s1 a = some d ∧ truD s1.M d = some b ∧ QB b s1) X (m s)) : Wo QB X (mTru m s) := w_bind (w_mono h fun a s1 ⟨d, b, e1, e2, k⟩ => by rw [e1]; show Wo QB X (match truD s1.M d with | some b => Ro.ok b s1 | none => .no); rw [e2]; exact k)
theorem w_bl (h : Wo (fun a s1 => ∃ b, a = .val (.bl b) ∧ QB b s1) X (m s)) : Wo QB X (mBl m s) := w_bind (w_mono h fun a s1 ⟨b, e, k⟩ => by subst e; exact k)
theorem w_blB {b : Bool} (h : QB b s) : ∃ b', AI.val (.bl b) = .val (.bl b') ∧ QB b' s := ⟨b, rfl, h⟩
theorem w_and {c1 c2 : Mo Bool} (h : Wo (fun k s1 => if k = true then Wo QB X (c2 s1) else QB false s1) X (c1 s)) : Wo QB X (mAnd c1 c2 s) := w_bind (w_mono h fun k s1 h => by cases k <;> exact h)
theorem w_or {c1 c2 : Mo Bool} (h : Wo (fun k s1 => if k = true then QB true s1 else Wo QB X (c2 s1)) X (c1 s)) : Wo QB X (mOr c1 c2 s) := w_bind (w_mono h fun k s1 h => by cases k <;> exact h)
theorem w_not {c1 : Mo Bool} (h : Wo (fun k s1 => QB (!k) s1) X (c1 s)) : Wo QB X (mNot c1 s) := w_bind h
theorem w_andV (h : Wo (fun a s1 => ∃ k, a = .val (.bl k) ∧ if k = true then Wo QA X (m2 s1) else QA (.val (.bl false)) s1) X (m1 s)) : Wo QA X (mAndV m1 m2 s) := w_bind (w_mono h fun a s1 ⟨k, e, h⟩ => by subst e; cases k <;> exact h)
theorem w_orV (h : Wo (fun a s1 => ∃ k, a = .val (.bl k) ∧ if k = true then QA (.val (.bl true)) s1 else Wo QA X (m2 s1)) X (m1 s)) : Wo QA X (mOrV m1 m2 s) := w_bind (w_mono h fun a s1 ⟨k, e, h⟩ => by subst e; cases k <;> exact h)
theorem w_notV (h : Wo (fun a s1 => ∃ k, a = .val (.bl k) ∧ QA (.val (.bl (!k))) s1) X (m1 s)) : Wo QA X (mNotV m1 s) := w_bind (w_mono h fun a s1 ⟨k, e, h⟩ => by subst e; exact h)
theorem w_blV {b : Bool} {P : Bool → Prop} (h : P b) : ∃ k, AI.val (.bl b) = .val (.bl k) ∧ P k := ⟨b, rfl, h⟩
theorem w_ifE {c : Mo Bool} {m1 m2 : Mo α} (h : Wo (fun k s1 => if k = true then Wo Q X (m1 s1) else Wo Q X (m2 s1)) X (c s)) : Wo Q X (mIf c m1 m2 s) := w_bind (w_mono h fun k s1 h => by cases k <;> exact h)
theorem w_chain {f f' : Stt → AI → AI → Ro AI} (h : Wo (fun a s1 => Wo (fun b s2 => Wo (fun z s3 => ∃ k, z = .val (.bl k) ∧ if k = true then Wo (fun c s4 => Wo QA X (f' s4 b c)) X (m3 s3) else QA (.val (.bl false)) s3) X (f s2 a b)) X (m2 s1)) X (m1 s)) : Wo QA X (mChain f f' m1 m2 m3 s) :=
  w_bind (w_mono h fun a s1 h => w_bind (w_mono h fun b s2 h => w_bind (w_mono h fun z s3 ⟨k, e, h⟩ => by subst e; cases k with | true => exact w_bind h | false => exact h)))
theorem w_aNil (h : QL [] s) : Wo QL X (aNil s) := h
theorem w_aCons {r : Mo (List AI)} (h : Wo (fun a s1 => Wo (fun as s2 => QL (a :: as) s2) X (r s1)) X (m s)) : Wo QL X (aCons m r s) := w_bind (w_mono h fun _ _ h => w_bind h)
theorem w_vNil (h : QV [] s) : Wo QV X (vNil s) := h
theorem w_vCons {r : Mo (List D)} (h : Wo (fun d s1 => Wo (fun as s2 => QV (d :: as) s2) X (r s1)) X (mV m s)) : Wo QV X (vCons m r s) := w_bind (w_mono h fun _ _ h => w_bind h)
theorem w_V (h : Wo (fun a s1 => Wo QD X (toV a s1)) X (m s)) : Wo QD X (mV m s) := w_bind h
theorem w_toVV {d : D} (h : QD d s) : Wo QD X (toV (.val d) s) := h
theorem w_toVN {c : Cn} (h : QD c.toD s) : Wo QD X (toV (.new c) s) := h
theorem w_toVS {c : Cn} (e : entAt s i = some (.ow c)) (h : QD c.toD ⟨s.env.set i (some (.fz c.toD)), s.M⟩) : Wo QD X (toV (.slot i) s) := by
  show Wo QD X (match entAt s i with | some (.ow c) => Ro.ok c.toD ⟨s.env.set i (some (.fz c.toD)), s.M⟩ | some (.fz d) => Ro.ok d s | _ => Ro.no)
  rw [e]; exact h
theorem w_lst {r : Mo (List D)} (h : Wo (fun l s1 => l.length ≤ sizeLine ∧ QA (.new (.lst l)) s1) X (r s)) : Wo QA X (mLst r s) := w_bind (w_mono h fun l s1 ⟨c, h⟩ => by show Wo QA X (if _ then _ else _); rw [if_pos c]; exact h)
theorem w_tup {r : Mo (List D)} (h : Wo (fun l s1 => l.length ≤ sizeLine ∧ QA (.val (.tup l)) s1) X (r s)) : Wo QA X (mTup r s) := w_bind (w_mono h fun l s1 ⟨c, h⟩ => by show Wo QA X (if _ then _ else _); rw [if_pos c]; exact h)
theorem w_oNo (h : QO none s) : Wo QO X (oNo s) := h
theorem w_oSm (h : Wo (fun a s1 => ∃ i, a = .val (.int i) ∧ QO (some i) s1) X (m s)) : Wo QO X (oSm m s) := w_bind (w_mono h fun a s1 ⟨i, e, h⟩ => by subst e; exact h)
theorem w_intI {i : Int} {P : Int → Prop} (h : P i) : ∃ k, AI.val (.int i) = .val (.int k) ∧ P k := ⟨i, rfl, h⟩
theorem w_sl {ml mh : Mo (Option Int)} (h : Wo (fun a s1 => Wo (fun l s2 => Wo (fun u s3 => Wo QA X (fSl s3 a l u)) X (mh s2)) X (ml s1)) X (m s)) : Wo QA X (mSl m ml mh s) := w_bind (w_mono h fun _ _ h => w_bind (w_mono h fun _ _ h => w_bind h))
theorem w_slL {a : AI} {l : List D} {lo hi : Option Int} (n : noS a = true) (e : viewL s a = some l) (h : QA (.new (.lst (cutL l lo hi))) s) : Wo QA X (fSl s a lo hi) := by
  unfold fSl
  split
  · cases n
  · rw [e]; exact h
theorem w_slS {x : Str} {lo hi : Option Int} (c : x.length ≤ sizeLine) (h : QA (.val (.str (cutS x lo hi))) s) : Wo QA X (fSl s (.val (.str x)) lo hi) := by
  show Wo QA X (if _ then _ else _); rw [if_pos c]; exact h
theorem w_cb {f : Stt → List AI → Ro AI} {r : Mo (List AI)} (h : Wo (fun as s1 => Wo QA X (f s1 as)) X (r s)) : Wo QA X (mCB f r s) := w_bind h
theorem w_len {a : AI} {d : D} {n : Nat} (e1 : look s a = some d) (e2 : lenD s.M d = some n) (h : QA (.val (.int (n : Int))) s) : Wo QA X (fLen s [a]) := by
  unfold fLen; simp only []; rw [e1]; show Wo QA X (match lenD s.M d with | some n => _ | none => _); rw [e2]; exact h
theorem w_ints {g : List Int → Option D} {a : AI} {l : List D} {ns : List Int} {d : D} (e1 : viewL s a = some l) (e2 : intsD l = some ns) (e3 : g ns = some d) (h : QA (.val d) s) : Wo QA X (fInts g s [a]) := by
  unfold fInts; simp only []; rw [e1]; show Wo QA X (match (intsD l).bind g with | some d => _ | none => _); rw [e2]; show Wo QA X (match g ns with | some d => _ | none => _); rw [e3]; exact h
theorem w_bls {g : List Bool → D} {a : AI} {l : List D} {bs : List Bool} (e1 : viewL s a = some l) (e2 : blsD l = some bs) (h : QA (.val (g bs)) s) : Wo QA X (fBls g s [a]) := by
  unfold fBls; simp only []; rw [e1]; show Wo QA X (match blsD l with | some d => _ | none => _); rw [e2]; exact h
theorem w_I2 {g : Int → Int → Int} {i j : Int} (h : QA (.val (.int (g i j))) s) : Wo QA X (fI2 g s [.val (.int i), .val (.int j)]) := h
theorem w_list {a : AI} {l : List D} (e : viewL s a = some l) (h : QA (.new (.lst l)) s) : Wo QA X (fList s [a]) := by unfold fList; simp only []; rw [e]; exact h
theorem w_intB {k : Bool} (h : QA (.val (.int (if k then 1 else 0))) s) : Wo QA X (fInt s [.val (.bl k)]) := h
theorem w_isi {a : AI} {n : String} {t : String} {d : D} {b : Bool} (e1 : look s a = some d) (e2 : kindD s.M d = some n) (e3 : kitB n t = some b) (h : QA (.val (.bl b)) s) : Wo QA X (fIsi s [a, .val (.ty t)]) := by
  unfold fIsi; simp only []; rw [e1]; show Wo QA X (match (kindD s.M d).bind fun n => kitB n t with | some b => _ | none => _); rw [e2]; show Wo QA X (match kitB n t with | some b => _ | none => _); rw [e3]; exact h
theorem w_bm {f : Stt → AI → List D → Ro AI} {mo : Mo AI} {ma : Mo (List D)} (h : Wo (fun a s1 => ∃ l, viewL s1 a = some l ∧ Wo (fun ds s2 => Wo QA X (f s2 a ds)) X (ma s1)) X (mo s)) : Wo QA X (mBM f mo ma s) := w_bind (w_mono h fun a s1 ⟨l, e, h⟩ => by
  show Wo QA X (match viewL s1 a with | some _ => _ | none => _); rw [e]; exact w_bind h)
theorem w_app {a : AI} {l : List D} {d : D} (e : getC s a = some (.lst l)) (c : l.length < sizeLine) (h : QA (.val .non) (setC s a (.lst (l ++ [d])))) : Wo QA X (fApp s a [d]) := by
  unfold fApp; rw [e]; simp only []; rw [if_pos c]; exact h
theorem w_callN {f : Mf} {ma : Mo (List D)} (h : Wo (fun ds s1 => Fo (fun a M' => QA a ⟨s1.env, M'⟩) (f ds s1.M)) X (ma s)) : Wo QA X (mCallN f ma s) := w_bind (w_mono h fun ds s1 h => by
  show Wo QA X (match f ds s1.M with | .ok a M' => _ | _ => _)
  cases q : f ds s1.M <;> rw [q] at h <;> exact h)
theorem fo_eq {P : AI → List Cn → Prop} {r : Fr} {a : AI} {M' : List Cn} (e : r = .ok a M') (h : P a M') : Fo P r := by subst e; exact h
theorem fo_ok {P : AI → List Cn → Prop} {r : Fr} {a : AI} {M' : List Cn} (h : Fo (fun a' M'' => a' = a ∧ M'' = M') r) : r = .ok a M' := by
  cases r with
  | ok a' M'' => obtain ⟨rfl, rfl⟩ := h; rfl
  | er _ _ => exact False.elim h
  | no => exact False.elim h
/-- how a def ends -/
def Oe (P : AI → List Cn → Prop) : Rs → Prop
  | .rt a s => P a s.M
  | _ => False
theorem f_fn {P : AI → List Cn → Prop} {np n : Nat} {b : Ms} {ds : List D} (hl : ds.length = np) (h : Ws (fun s => P (.val .non) s.M) (Oe P) (b ⟨ds.map (fun d => some (.fz d)) ++ List.replicate (n - ds.length) none, M⟩)) : Fo P (mFn np n b ds M) := by
  unfold mFn
  rw [if_pos hl]
  cases q : b ⟨ds.map (fun d => some (.fz d)) ++ List.replicate (n - ds.length) none, M⟩ <;> rw [q] at h <;> exact h
theorem w_aug {f : Int → Int → Int} {x : Int} (e : entAt s i = some (.fz (.int x))) (h : Wo (fun a s1 => ∃ y, a = .val (.int y) ∧ N ⟨s1.env.set i (some (.fz (.int (f x y)))), s1.M⟩) (fun x s => O (.er x s)) (m s)) : Ws N O (mAug i f m s) := by
  unfold mAug; rw [e]
  exact w_toS (w_mono h fun a s1 ⟨y, e, h⟩ => by subst e; exact h)
theorem w_asgT {g : Tg} (h : Wo (fun d s1 => So N (g d s1)) (fun x s => O (.er x s)) (mV m s)) : Ws N O (mAsgT g m s) := w_toS (w_mono h fun d s1 h => by
  show Ws N O (match g d s1 with | some s2 => .nx s2 | none => .no)
  cases q : g d s1 <;> rw [q] at h <;> exact h)
theorem w_asgS {mo mi mv : Mo AI} (h : Wo (fun d s1 => Wo (fun a s2 => Wo (fun i s3 => So N (setIt a i d s3)) (fun x s => O (.er x s)) (mV mi s2)) (fun x s => O (.er x s)) (mo s1)) (fun x s => O (.er x s)) (mV mv s)) : Ws N O (mAsgS mo mi mv s) :=
  w_toS (w_mono h fun d s1 h => w_toS (w_mono h fun a s2 h => w_toS (w_mono h fun i s3 h => by
    show Ws N O (match setIt a i d s3 with | some s4 => .nx s4 | none => .no)
    cases q : setIt a i d s3 <;> rw [q] at h <;> exact h)))
theorem so_set {P : Stt → Prop} {s' : Stt} {r : Option Stt} (e : r = some s') (h : P s') : So P r := by subst e; exact h
def Lo (P N : Stt → Prop) (O : Rs → Prop) : Rs → Prop
  | .ct s => P s
  | .bk s => N s
  | r => O r
theorem w_for {mi : Mo Im} {g : Tg} {b : Ms} (h : Wo (fun im s1 => Ws N O (forN g b im.ck im.xs s1)) (fun x s => O (.er x s)) (mi s)) : Ws N O (mFor mi g b s) := w_toS h
theorem w_forN {g : Tg} {b : Ms} {xs : List D} (P : Nat → Stt → Prop) (h0 : P 0 s) (hs : ∀ i x s, xs[i]? = some x → P i s → So (fun s1 => Ws (P (i + 1)) (Lo (P (i + 1)) N O) (b s1)) (g x s)) (hd : ∀ s, P xs.length s → N s) : Ws N O (forN g b none xs s) := by
  induction xs generalizing P s with
  | nil => rw [forN_nil]; exact hd s h0
  | cons x xs ih =>
    have h1 := hs 0 x s rfl h0
    cases hg : g x s with
    | none => rw [hg] at h1; exact False.elim h1
    | some s1 =>
      rw [hg] at h1
      have h1 : Ws (P 1) (Lo (P 1) N O) (b s1) := h1
      rw [forN_cons hg]
      cases hb : b s1 with
      | nx s2 => rw [hb] at h1; exact ih (fun i => P (i + 1)) h1 (fun i y s e => hs (i + 1) y s e) hd
      | ct s2 => rw [hb] at h1; exact ih (fun i => P (i + 1)) h1 (fun i y s e => hs (i + 1) y s e) hd
      | bk s2 => rw [hb] at h1; exact h1
      | rt a s2 => rw [hb] at h1; exact h1
      | er x s2 => rw [hb] at h1; exact h1
      | no => rw [hb] at h1; exact h1
theorem w_while {c : Mo Bool} {b : Ms} (P : Nat → Stt → Prop) (n : Nat) (h0 : P n s) (hs : ∀ n s, P n s → Wo (fun k s1 => if k = true then Ws (fun s2 => ∃ m, m < n ∧ P m s2) (Lo (fun s2 => ∃ m, m < n ∧ P m s2) N O) (b s1) else N s1) (fun x s => O (.er x s)) (c s)) (hO : ∀ r, O r → r ≠ .no) : Ws N O (mWh c b s) := by
  have key : ∀ n s, P n s → ∃ k r, whN c b k s = r ∧ r ≠ .no ∧ Ws N O r := by
    intro n
    induction n using Nat.strongRecOn with
    | ind n ih =>
      intro s h
      have h1 := hs n s h
      cases hc : c s with
      | no => rw [hc] at h1; exact False.elim h1
      | er x s1 => rw [hc] at h1; exact ⟨1, .er x s1, by unfold whN; rw [hc]; rfl, (fun z => nomatch z), h1⟩
      | ok k s1 =>
        rw [hc] at h1
        have h1 : if k = true then Ws (fun s2 => ∃ m, m < n ∧ P m s2) (Lo (fun s2 => ∃ m, m < n ∧ P m s2) N O) (b s1) else N s1 := h1
        cases k with
        | false =>
          rw [if_neg Bool.false_ne_true] at h1
          exact ⟨1, .nx s1, by unfold whN; rw [hc]; rfl, (fun z => nomatch z), h1⟩
        | true =>
          rw [if_pos rfl] at h1
          have go : ∀ s2, (∃ m, m < n ∧ P m s2) → (b s1 = .nx s2 ∨ b s1 = .ct s2) → ∃ k r, whN c b k s = r ∧ r ≠ .no ∧ Ws N O r := by
            rintro s2 ⟨m, hm, hp⟩ hb
            obtain ⟨k, r, e, nr, w⟩ := ih m hm s2 hp
            refine ⟨k + 1, r, ?_, nr, w⟩
            unfold whN; rw [hc]
            show (if true = true then (match b s1 with | .nx s2 => whN c b k s2 | .ct s2 => whN c b k s2 | .bk s2 => .nx s2 | .rt a s2 => .rt a s2 | .er x s2 => .er x s2 | .no => .no) else Rs.nx s1) = _
            rw [if_pos rfl]
            rcases hb with hb | hb <;> rw [hb] <;> exact e
          have fin : ∀ r0 r, b s1 = r0 → (match r0 with | .nx s2 => whN c b 0 s2 | .ct s2 => whN c b 0 s2 | .bk s2 => .nx s2 | .rt a s2 => .rt a s2 | .er x s2 => .er x s2 | .no => .no) = r → whN c b 1 s = r := by
            intro r0 r hb e
            unfold whN; rw [hc]
            show (if true = true then (match b s1 with | .nx s2 => whN c b 0 s2 | .ct s2 => whN c b 0 s2 | .bk s2 => .nx s2 | .rt a s2 => .rt a s2 | .er x s2 => .er x s2 | .no => .no) else Rs.nx s1) = _
            rw [if_pos rfl, hb]; exact e
          cases hb : b s1 with
          | nx s2 => rw [hb] at h1; exact go s2 h1 (.inl hb)
          | ct s2 => rw [hb] at h1; exact go s2 h1 (.inr hb)
          | bk s2 => rw [hb] at h1; exact ⟨1, .nx s2, fin _ _ hb rfl, (fun z => nomatch z), h1⟩
          | rt a s2 => rw [hb] at h1; exact ⟨1, .rt a s2, fin _ _ hb rfl, (fun z => nomatch z), h1⟩
          | er x s2 => rw [hb] at h1; exact ⟨1, .er x s2, fin _ _ hb rfl, (fun z => nomatch z), h1⟩
          | no => rw [hb] at h1; exact False.elim h1
  obtain ⟨k, r, e, nr, w⟩ := key n s h0
  rw [mWh_eq e nr]; exact w
theorem oe_no {P : AI → List Cn → Prop} : ∀ r, Oe P r → r ≠ .no := fun r h z => by subst z; exact h
theorem w_rng1 {r : Mo (List AI)} (h : Wo (fun as s1 => ∃ n : Int, as = [.val (.int n)] ∧ (-(2 ^ 62) ≤ n ∧ n < 2 ^ 62) ∧ QI ⟨rng 0 n.toNat, none⟩ s1) X (r s)) : Wo QI X (mRng1 r s) := w_bind (w_mono h fun as s1 ⟨n, e, c, h⟩ => by subst e; simp only []; rw [if_pos (show CRg1 n from c)]; exact h)
theorem w_rng1I {n : Int} {P : Int → Prop} (c : -(2 ^ 62) ≤ n ∧ n < 2 ^ 62) (h : P n) : ∃ m : Int, [AI.val (.int n)] = [.val (.int m)] ∧ (-(2 ^ 62) ≤ m ∧ m < 2 ^ 62) ∧ P m := ⟨n, rfl, c, h⟩
theorem w_rng2 {r : Mo (List AI)} (h : Wo (fun as s1 => ∃ i j : Int, as = [.val (.int i), .val (.int j)] ∧ (-(2 ^ 62) ≤ i ∧ i < 2 ^ 62 ∧ -(2 ^ 62) ≤ j ∧ j < 2 ^ 62) ∧ QI ⟨rng i (j - i).toNat, none⟩ s1) X (r s)) : Wo QI X (mRng2 r s) := w_bind (w_mono h fun as s1 ⟨i, j, e, c, h⟩ => by subst e; simp only []; rw [if_pos (show CRg2 i j from c)]; exact h)
theorem w_rng2I {i j : Int} {P : Int → Int → Prop} (c : -(2 ^ 62) ≤ i ∧ i < 2 ^ 62 ∧ -(2 ^ 62) ≤ j ∧ j < 2 ^ 62) (h : P i j) : ∃ i' j' : Int, [AI.val (.int i), .val (.int j)] = [.val (.int i'), .val (.int j')] ∧ (-(2 ^ 62) ≤ i' ∧ i' < 2 ^ 62 ∧ -(2 ^ 62) ≤ j' ∧ j' < 2 ^ 62) ∧ P i' j' := ⟨i, j, rfl, c, h⟩
theorem w_wl (h : Wo (fun d s1 => ∃ l, Y.listOf s1.M d = some l ∧ QI ⟨l, ckOf d l⟩ s1) X (mV m s)) : Wo QI X (mWL m s) := w_bind (w_mono h fun d s1 ⟨l, e, h⟩ => by show Wo QI X (match Y.listOf s1.M d with | some l => _ | none => _); rw [e]; exact h)
theorem w_wt (h : Wo (fun d s1 => ∃ l, tupOf d = some l ∧ QI ⟨l, none⟩ s1) X (mV m s)) : Wo QI X (mWT m s) := w_bind (w_mono h fun d s1 ⟨l, e, h⟩ => by show Wo QI X (match tupOf d with | some l => _ | none => _); rw [e]; exact h)
theorem w_we {r : Mo (List D)} (h : Wo (fun ds s1 => ∃ d l, ds = [d] ∧ Y.listOf s1.M d = some l ∧ QI ⟨enumL l, ckOf d l⟩ s1) X (r s)) : Wo QI X (mWE r s) := w_bind (w_mono h fun ds s1 ⟨d, l, e0, e, h⟩ => by subst e0; show Wo QI X (match Y.listOf s1.M d with | some l => _ | none => _); rw [e]; exact h)
theorem w_ws (h : Wo (fun a s1 => ∃ x, a = .val (.str x) ∧ QI ⟨strL x, none⟩ s1) X (m s)) : Wo QI X (mWS m s) := w_bind (w_mono h fun a s1 ⟨x, e, h⟩ => by subst e; exact h)
theorem w_lc {ws : List Nat} {mi : Mo Im} {g : Tg} {c : Mo Bool} {e : Mo AI} (h : Wo (fun im s1 => ∃ l s2, lcN ws g c (mV e) im.ck im.xs [] (wipeS ws s1) = .ok l s2 ∧ QA (.new (.lst l)) ⟨Y.rest s1.env s2.env ws, s2.M⟩) X (mi s)) : Wo QA X (mLc ws mi g c e s) := w_bind (w_mono h fun im s1 ⟨l, s2, e, h⟩ => by
  show Wo QA X (match lcN ws g c (mV _) im.ck im.xs [] (wipeS ws s1) with | .ok l s2 => _ | _ => _)
  rw [e]; exact h)
/-- every item is f of its part; the state comes back -/
theorem w_lcMap {ws : List Nat} {g : Tg} {e : Mo D} {xs : List D} {P : List D → Stt → Prop} (f : D → D) (hz : xs.length ≤ sizeLine) (h : ∀ x ∈ xs, So (fun s1 => Wo (fun d s2 => d = f x ∧ wipeS ws s2 = s) Xf (e s1)) (g x s)) (k : P (xs.map f) s) : ∃ l s2, lcN ws g mYes e none xs [] s = .ok l s2 ∧ P l s2 := by
  refine ⟨xs.map f, s, ?_, k⟩
  have := lc_map (ws := ws) (g := g) (e := e) (s := s) f hz (fun x hx => by
    have h1 := h x hx
    cases hg : g x s with
    | none => rw [hg] at h1; exact h1
    | some s1 =>
      rw [hg] at h1
      have h1 : Wo (fun d s2 => d = f x ∧ wipeS ws s2 = s) Xf (e s1) := h1
      show Ok _ (e s1)
      cases q : e s1 <;> rw [q] at h1 <;> exact h1) [] (by simpa using hz)
  simpa using this
theorem w_lcInv {ws : List Nat} {g : Tg} {e : Mo D} {xs : List D} {P : List D → Stt → Prop} (I : Nat → List D → Stt → Prop) (h0 : I 0 [] s) (hz : xs.length ≤ sizeLine) (h : ∀ i x acc s, xs[i]? = some x → I i acc s → So (fun s1 => Wo (fun d s2 => I (i + 1) (acc ++ [d]) (wipeS ws s2)) Xf (e s1)) (g x s)) (k : ∀ l s', I xs.length l s' → P l s') : ∃ l s2, lcN ws g mYes e none xs [] s = .ok l s2 ∧ P l s2 := by
  obtain ⟨l, s', e1, h1⟩ := lc_inv (ws := ws) (g := g) (e := e) (xs := xs) I [] h0 (by simpa using hz) (fun i x acc s hx hi => by
    have h1 := h i x acc s hx hi
    cases hg : g x s with
    | none => rw [hg] at h1; exact h1
    | some s1 =>
      rw [hg] at h1
      have h1 : Wo (fun d s2 => I (i + 1) (acc ++ [d]) (wipeS ws s2)) Xf (e s1) := h1
      show Ok _ (e s1)
      cases q : e s1 <;> rw [q] at h1 <;> exact h1)
  exact ⟨l, s', e1, k l s' h1⟩
theorem so_some {P : Stt → Prop} (h : P s) : So P (some s) := h
end
end Y
namespace Y
open PySem L2 Z
section
variable {QA : AI → Stt → Prop} {X : Exn → Stt → Prop} {s : Stt}
theorem shaped_str {x : Str} (h : PySem.PyData.strOk x = true) : SeqAt.shaped (.str x) = true := by
  unfold SeqAt.shaped
  rw [show PyData.canLay0 (.str x) = true from h]; rfl
theorem eqv_str (x y : Str) : PyData.eqv (.str x) (.str y) = decide (x = y) := by
  show (x == y) = _
  by_cases h : x = y
  · subst h; simp
  · simp [h]
theorem w_eqS {x y : Str} (c : PySem.PyData.strOk x = true) (c' : PySem.PyData.strOk y = true) (h : QA (.val (.bl (decide (x = y)))) s) : Wo QA X (fEq s (.val (.str x)) (.val (.str y))) :=
  w_eq (eqOf_of (x := .str x) (y := .str y) rfl rfl (shaped_str c) (shaped_str c') (eqv_str x y)) h
theorem w_neS {x y : Str} (c : PySem.PyData.strOk x = true) (c' : PySem.PyData.strOk y = true) (h : QA (.val (.bl (!decide (x = y)))) s) : Wo QA X (fNe s (.val (.str x)) (.val (.str y))) :=
  w_ne (eqOf_of (x := .str x) (y := .str y) rfl rfl (shaped_str c) (shaped_str c') (eqv_str x y)) h
end
end Y
namespace Y
open PySem L2 Z
mutual
def D.noId : D → Bool
  | .tup l => D.noIdL l
  | .ctp l => D.noIdL l
  | .lst l => D.noIdL l
  | .clst l => D.noIdL l
  | .dK l => D.noIdK l
  | .dT l => D.noIdT l
  | .cid _ => false
  | _ => true
def D.noIdL : List D → Bool
  | [] => true
  | d :: l => d.noId && D.noIdL l
def D.noIdK : List (Key × D) → Bool
  | [] => true
  | (_, d) :: l => d.noId && D.noIdK l
def D.noIdT : List (List Key × D) → Bool
  | [] => true
  | (_, d) :: l => d.noId && D.noIdT l
end
def D.scal : D → Bool
  | .non => true
  | .bl _ => true
  | .int _ => true
  | .str _ => true
  | _ => false
section
variable {K : PySem.W.Frag} {ct : Ct} {H0 : Hp} {W : WX} {S : Sh} {s : Stt} {σ : St} {H : Hp} {G : Hp} {α α' : Nat → Addr} {n : Nat}
theorem noIdK_vals : ∀ {l : List (Key × D)}, D.noIdK l = true → D.noIdL (l.map Prod.snd) = true
  | [], _ => rfl
  | (k, d) :: l, h => by
    have h : (d.noId && D.noIdK l) = true := h
    rw [Bool.and_eq_true] at h
    show (d.noId && D.noIdL (l.map Prod.snd)) = true
    rw [h.1, noIdK_vals h.2]; rfl
theorem noIdT_vals : ∀ {l : List (List Key × D)}, D.noIdT l = true → D.noIdL (l.map Prod.snd) = true
  | [], _ => rfl
  | (k, d) :: l, h => by
    have h : (d.noId && D.noIdT l) = true := h
    rw [Bool.and_eq_true] at h
    show (d.noId && D.noIdL (l.map Prod.snd)) = true
    rw [h.1, noIdT_vals h.2]; rfl
mutual
theorem Rp.noId : ∀ {v : V} {d : D}, Rp K G α n v d → d.noId = true → Rp K G α' 0 v d
  | _, _, .non, _ => .non
  | _, _, .bl b, _ => .bl b
  | _, _, .int i, _ => .int i
  | _, _, .str x, _ => .str x
  | _, _, .ty x, _ => .ty x
  | _, _, .tup h r, e => .tup h (RpL.noId r e)
  | _, _, .ctp h r, e => .ctp h (RpL.noId r e)
  | _, _, .lst h r, e => .lst h (RpL.noId r e)
  | _, _, .clst h r, e => .clst h (RpL.noId r e)
  | _, _, .dK h q r, e => .dK h q (RpL.noId r (noIdK_vals e))
  | _, _, .dT h q r, e => .dT h q (RpL.noId r (noIdT_vals e))
  | _, _, .cid h, e => by cases e
theorem RpL.noId : ∀ {vs : List V} {l : List D}, RpL K G α n vs l → D.noIdL l = true → RpL K G α' 0 vs l
  | _, _, .nil, _ => .nil
  | _, _, .cons (d := d) (l := l) h r, e => by
    have e : (d.noId && D.noIdL l) = true := e
    rw [Bool.and_eq_true] at e
    exact .cons (Rp.noId h e.1) (RpL.noId r e.2)
end
theorem Rp.scal {G' : Hp} {n' : Nat} {v : V} {d : D} (h : Rp K G α n v d) (e : d.scal = true) : Rp K G' α' n' v d := by
  cases h <;> first | exact .non | exact .bl _ | exact .int _ | exact .str _ | cases e
theorem Rel.grow {H' : Hp} (r : Rel K ct H0 S s σ H) (k : ∀ a o, H a = some o → H' a = some o) : Rel K ct H0 S s σ H' := by
  have cn : ∀ {a : Addr} {c : Cn}, CnOk K ct S s.M.length H a c → CnOk K ct S s.M.length H' a c := fun {a c} h => h.mono (fun _ _ e => e) (fun _ _ => rfl) (Nat.le_refl _) (fun o e => k a o e)
  refine ⟨fun a o e => U_grow (fun o' e' => k a o' e') (r.sub a o e), fun a l e => ?_, fun a e => ?_, r.len, fun i e h => ?_, fun j c h => ?_⟩
  · obtain ⟨h1, o, h2⟩ := r.lg a l e
    exact ⟨h1, o, k a o h2⟩
  · cases q : H a with
    | none => exact r.dom a q
    | some o => have := k a o q; rw [e] at this; cases this
  · have q := r.slot i e h
    cases e with
    | fz d => exact q
    | xn x => exact xn_mono (S := S) (n := s.M.length) (H := H) (fun _ _ e => e) (fun _ _ => rfl) (Nat.le_refl _) rfl q
    | ow c =>
      obtain ⟨a, h1, h2, h3, h4, h5⟩ := q
      exact ⟨a, h1, h2, h3, h4, cn h5⟩
  · obtain ⟨h1, h2⟩ := r.ids j c h
    exact ⟨h1, cn h2⟩
def snap (s : Stt) : List AI → Option (List D)
  | [] => some []
  | a :: as => (look s a).bind fun d => (snap s as).map (d :: ·)
theorem snap_ok {Hs : Hp} (rel : Rel K ct H0 S s σ H) : ∀ {vs : List V} {as : List AI} {ds : List D}, AsOk K ct Hs S s σ H vs as → snap s as = some ds → RpL K (U ct.lk H) S.α s.M.length vs ds
  | _, _, _, .nil, e => by cases e; exact .nil
  | _, _, _, .cons (a := a) (as := as) i r, e => by
    obtain ⟨d, e1, e2⟩ := Option.bind_eq_some_iff.mp (show ((look s a).bind fun d => (snap s as).map (d :: ·)) = some _ from e)
    obtain ⟨ds, e3, rfl⟩ := Option.map_eq_some_iff.mp e2
    exact .cons (look_ok rel i e1) (snap_ok rel r e3)
def mCallB (f : Mf) (m : Mo (List AI)) : Mo AI := fun s => (m s).bind fun as s1 => match snap s1 as with
  | some ds => if D.noIdL ds = true then (match f ds [] with
    | .ok (.val d) _ => if d.scal = true then .ok (.val d) s1 else .no
    | _ => .no) else .no
  | none => .no
theorem ei_callB {f : Mf} {E : XK} {t : TA} {m : Mo (List AI)} (h : EaL K ct H0 W t m) : Ei K ct H0 W (tCallZ (spM K ct f) E t) (mCallB f m) := fun S s σ H Q rel p =>
  h S s σ H _ rel (Pst.bind bI p fun S1 s1 H1 vs as st1 rel1 i1 p1 => by
    split at p1
    · rename_i ds e
      split at p1
      · rename_i hn
        refine ⟨⟨U ct.lk H1, S1.α, fun _ => none⟩, [], ds, ⟨fun _ _ e => e, (fun a l e => nomatch e), fun _ e => e, rfl, (fun i e q => by simp at q), (fun k c q => by simp at q)⟩, (snap_ok rel1 i1 e).noId hn, ?_⟩
        split at p1
        · rename_i d M' ef
          rw [ef]
          split at p1
          · rename_i hs
            intro S' v H' st rel' it
            have k : ∀ a o, H1 a = some o → H' a = some o := fun a o e => (st.fr a o e rfl).1
            exact p1 S1 v H' ⟨fun _ _ e => e, Nat.le_refl _, fun _ _ => rfl, fun a o e l => ⟨k a o e, l⟩, fun _ _ e => .inl e, st.dom⟩ (rel1.grow k) (Rp.scal it hs)
          · exact False.elim p1
        · exact False.elim p1
      · exact False.elim p1
    · exact False.elim p1)
variable {QA : AI → Stt → Prop} {X : Exn → Stt → Prop}
theorem w_callB {f : Mf} {m : Mo (List AI)} (h : Wo (fun as s1 => ∃ ds d M', snap s1 as = some ds ∧ D.noIdL ds = true ∧ f ds [] = .ok (.val d) M' ∧ d.scal = true ∧ QA (.val d) s1) X (m s)) : Wo QA X (mCallB f m s) := w_bind (w_mono h fun as s1 ⟨ds, d, M', e1, e2, e3, e4, h⟩ => by
  show Wo QA X (match snap s1 as with | some ds => _ | none => _)
  rw [e1]; show Wo QA X (if _ then _ else _); rw [if_pos e2, e3]; show Wo QA X (if _ then _ else _); rw [if_pos e4]; exact h)
theorem noIdL_ints (ns : List Int) : D.noIdL (ns.map D.int) = true := by
  induction ns with
  | nil => rfl
  | cons n ns ih => show (true && D.noIdL (ns.map D.int)) = true; rw [ih]; rfl
mutual
theorem eqv_self : ∀ x : PyData, x.canLay0 = true → x.eqv x = true
  | .none, _ => rfl
  | .bool b, _ => by show (b == b) = true; simp
  | .int i, _ => by show (i == i) = true; simp
  | .str x, _ => by show (x == x) = true; simp
  | .list xs, h => eqvAll_self xs h
  | .tuple xs, h => eqvAll_self xs h
  | .dict _, h => by cases h
theorem eqvAll_self : ∀ xs : List PyData, PyData.canLayAll0 xs = true → PyData.eqvAll xs xs = true
  | [], _ => rfl
  | x :: xs, h => by
    have h : (x.canLay0 && PyData.canLayAll0 xs) = true := h
    rw [Bool.and_eq_true] at h
    show (x.eqv x && PyData.eqvAll xs xs) = true
    rw [eqv_self x h.1, eqvAll_self xs h.2]; rfl
end
end
end Y
namespace Y
theorem fo_use {P P' : AI → List Cn → Prop} {r : Fr} (h : Fo P r) (k : ∀ a M', P a M' → P' a M') : Fo P' r := by
  cases r with
  | ok a M => exact k a M h
  | er _ _ => exact h
  | no => exact h
end Y
namespace Y
theorem w_neg {QA : AI → Stt → Prop} {X : Exn → Stt → Prop} {s : Stt} {i : Int} (h : QA (.val (.int (-i))) s) : Wo QA X (fNeg s (.val (.int i))) := h
end Y
namespace Y
section
variable {P : Bool → Prop} {s : Stt}
theorem w_truB {b : Bool} (h : P b) : ∃ d b', look s (.val (.bl b)) = some d ∧ truD s.M d = some b' ∧ P b' := ⟨_, _, rfl, rfl, h⟩
theorem w_truI {i : Int} (h : P (!decide (i = 0))) : ∃ d b', look s (.val (.int i)) = some d ∧ truD s.M d = some b' ∧ P b' := ⟨_, _, rfl, rfl, h⟩
end
end Y
namespace Y
open PySem L2 Z
section
variable {K : PySem.W.Frag} {ct : Ct} {H0 : Hp} {W : WX} {S : Sh} {s : Stt} {σ : St} {H : Hp}
def CLR1 (n : Int) : Prop := 0 ≤ n ∧ n ≤ sizeLine
open Classical in
noncomputable def mLR1 (m : Mo AI) : Mo AI := fun s => (m s).bind fun a s1 => match a with
  | .val (.int n) => if CLR1 n then .ok (.new (.lst (rng 0 n.toNat))) s1 else .no
  | _ => .no
def mCallC (f : Mf) (m : Mo (List AI)) : Mo AI := fun s => (m s).bind fun as s1 => match snap s1 as with
  | some ds => if D.noIdL ds = true then (match f ds [] with
    | .ok (.new (.lst l)) _ => if l.all D.scal = true then .ok (.new (.lst l)) s1 else .no
    | _ => .no) else .no
  | none => .no
theorem RpL.scal {G G' : Hp} {α α' : Nat → Addr} {n n' : Nat} : ∀ {vs : List V} {l : List D}, RpL K G α n vs l → l.all D.scal = true → RpL K G' α' n' vs l
  | _, _, .nil, _ => .nil
  | _, _, .cons (d := d) (l := l) h r, e => by
    rw [List.all_cons, Bool.and_eq_true] at e
    exact .cons (Rp.scal h e.1) (RpL.scal r e.2)
variable {X : Exn → Stt → Prop} {QA : AI → Stt → Prop}
theorem w_callC {f : Mf} {m : Mo (List AI)} (h : Wo (fun as s1 => ∃ ds l M', snap s1 as = some ds ∧ D.noIdL ds = true ∧ f ds [] = .ok (.new (.lst l)) M' ∧ l.all D.scal = true ∧ QA (.new (.lst l)) s1) X (m s)) : Wo QA X (mCallC f m s) := w_bind (w_mono h fun as s1 ⟨ds, d, M', e1, e2, e3, e4, h⟩ => by
  show Wo QA X (match snap s1 as with | some ds => _ | none => _)
  rw [e1]; show Wo QA X (if _ then _ else _); rw [if_pos e2, e3]; show Wo QA X (if _ then _ else _); rw [if_pos e4]; exact h)
theorem w_lr1 {m : Mo AI} (h : Wo (fun a s1 => ∃ n : Int, a = .val (.int n) ∧ 0 ≤ n ∧ n ≤ sizeLine ∧ QA (.new (.lst (rng 0 n.toNat))) s1) X (m s)) : Wo QA X (mLR1 m s) := w_bind (w_mono h fun a s1 ⟨n, e, c1, c2, h⟩ => by
  subst e; simp only []; rw [if_pos (show CLR1 n from ⟨c1, c2⟩)]; exact h)
theorem w_lr1I {n : Int} {s : Stt} (c1 : 0 ≤ n) (c2 : n ≤ sizeLine) (h : QA (.new (.lst (rng 0 n.toNat))) s) : ∃ m : Int, (AI.val (.int n)) = .val (.int m) ∧ 0 ≤ m ∧ m ≤ sizeLine ∧ QA (.new (.lst (rng 0 m.toNat))) s := ⟨n, rfl, c1, c2, h⟩
end
end Y
namespace Y
open PySem L2 Z
section
variable {K : PySem.W.Frag} {ct : Ct} {H0 : Hp} {W : WX} {S : Sh} {s : Stt} {σ : St} {H : Hp}
def Sh.tr (S : Sh) (n : Nat) (p : Addr) : Sh := ⟨S.G, fun k => if k = n then p else S.α k, fun a => if a = p then some (.id n) else S.lab a⟩
theorem Rel.track {p : Addr} {c : Cn} (r : Rel K ct H0 S s σ H) (hl : S.lab p = none) (hg : S.G p = none) (h : CnOk K ct S s.M.length H p c) : Rel K ct H0 (S.tr s.M.length p) ⟨s.env, s.M ++ [c]⟩ σ H := by
  have hlen : (s.M ++ [c]).length = s.M.length + 1 := by simp
  have al : ∀ k, k < s.M.length → (S.tr s.M.length p).α k = S.α k := fun k hk => if_neg (by omega)
  have lb : ∀ {a : Addr} {l : Lab}, S.lab a = some l → (S.tr s.M.length p).lab a = some l := fun {a l} hh => by
    show (if a = p then _ else S.lab a) = _
    rw [if_neg (fun z => by subst z; rw [hl] at hh; cases hh)]; exact hh
  have cn : ∀ {a : Addr} {c' : Cn}, CnOk K ct S s.M.length H a c' → CnOk K ct (S.tr s.M.length p) (s.M ++ [c]).length H a c' := fun {a c'} h => CnOk.mono (S := S) (n := s.M.length) (fun _ _ e => e) al (by rw [hlen]; omega) (fun _ e => e) h
  refine ⟨r.sub, fun a l q => ?_, r.dom, r.len, fun j en q => ?_, fun k c' q => ?_⟩
  · have q1 : (if a = p then some (Lab.id s.M.length) else S.lab a) = some l := q
    by_cases z : a = p
    · subst z; exact ⟨hg, h.some⟩
    · rw [if_neg z] at q1; exact r.lg a l q1
  · have hh := r.slot j en q
    cases en with
    | fz d => obtain ⟨v, k1, k2⟩ := hh; exact ⟨v, k1, k2.mono (fun _ _ e => e) al (by show _ ≤ (s.M ++ [c]).length; rw [hlen]; omega)⟩
    | xn x => exact xn_mono (S := S) (n := s.M.length) (H := H) (fun _ _ e => e) al (by show _ ≤ (s.M ++ [c]).length; rw [hlen]; omega) rfl hh
    | ow c2 =>
      obtain ⟨a, k1, k2, k3, k4, k5⟩ := hh
      exact ⟨a, k1, k2, lb k3, k4, cn k5⟩
  · have q1 : (s.M ++ [c])[k]? = some c' := q
    by_cases z : k < s.M.length
    · rw [List.getElem?_append_left z] at q1
      obtain ⟨k1, k2⟩ := r.ids k c' q1
      rw [al k z]
      exact ⟨lb k1, cn k2⟩
    · have hk : k = s.M.length := by
        have := (List.getElem?_eq_some_iff.mp q1).1
        rw [hlen] at this; omega
      subst hk
      rw [List.getElem?_append_right (Nat.le_refl _), Nat.sub_self] at q1
      cases q1
      have e : (S.tr s.M.length p).α s.M.length = p := if_pos rfl
      rw [e]
      exact ⟨if_pos rfl, cn h⟩
theorem Stp.track {S' : Sh} {n n' : Nat} {H' : Hp} {p : Addr} (t : Stp S n H S' n' H') (hp : H p = none) : Stp S n H (S'.tr n' p) (n' + 1) H' where
  g := t.g
  le := Nat.le_succ_of_le t.le
  al := fun k hk => by
    show (if k = n' then p else S'.α k) = _
    rw [if_neg (by have := t.le; omega)]; exact t.al k hk
  fr := fun a o h l => by
    obtain ⟨h1, h2⟩ := t.fr a o h l
    refine ⟨h1, ?_⟩
    show (if a = p then _ else S'.lab a) = none
    rw [if_neg (ne_of_none h hp)]; exact h2
  gn := t.gn
  dom := t.dom
theorem tr_cid {n : Nat} {p : Addr} : Rp K (S.tr n p).G (S.tr n p).α (n + 1) (.ref p) (.cid n) := by
  have h : Rp K (S.tr n p).G (S.tr n p).α (n + 1) (.ref ((S.tr n p).α n)) (.cid n) := .cid (Nat.lt_succ_self n)
  have e : (S.tr n p).α n = p := if_pos rfl
  rw [e] at h; exact h
/-- x = e, and the new thing is tracked -/
def mAsgK (i : Nat) (m : Mo AI) : Ms := fun s => (m s).toS fun a s1 => match a with
  | .new c => .nx ⟨s1.env.set i (some (.fz (.cid s1.M.length))), s1.M ++ [c]⟩
  | _ => .no
theorem sv_asgK {i : Nat} {te : TE} {m : Mo AI} (h : Ei K ct H0 W te m) : Sv K ct H0 W (tAsg te (gName i)) (mAsgK i m) := fun S s σ H Dn rel p =>
  h S s σ H _ rel (PstS.bind p fun S1 s1 H1 x a st1 rel1 i1 p1 => by
    show Dn.nx (σ.set i (some x)) H1
    split at p1
    · rename_i c
      obtain ⟨q, rfl, h1, h2, h3, h4, h5⟩ := i1
      have rt := rel1.track h2 h3 h5
      have hlen : (s1.M ++ [c]).length = s1.M.length + 1 := by simp
      refine p1 ((S1.tr s1.M.length q).un i) _ H1 ?_ (rt.setFz (by show Rp _ _ _ (s1.M ++ [c]).length _ _; rw [hlen]; exact tr_cid))
      show Stp S s.M.length H _ (s1.M ++ [c]).length H1
      rw [hlen]
      exact (st1.track h1).trans .un
    · exact False.elim p1)
def strsD : List D → Option (List Str)
  | [] => some []
  | .str i :: l => (strsD l).map (i :: ·)
  | _ :: _ => none
theorem strs_rp {G : Hp} {α : Nat → Addr} {n : Nat} : ∀ {l : List D} {vs : List V} {ns : List Str}, RpL K G α n vs l → strsD l = some ns → vs = ns.map V.str
  | [], _, _, .nil, e => by cases e; rfl
  | .str i :: l, _, ns, .cons h r, e => by
    obtain ⟨ms, q, rfl⟩ := Option.map_eq_some_iff.mp (show (strsD l).map (i :: ·) = some ns from e)
    rw [rp_str h, strs_rp r q]; rfl
  | .non :: _, _, _, _, e => by cases e
  | .bl _ :: _, _, _, _, e => by cases e
  | .int _ :: _, _, _, _, e => by cases e
  | .tup _ :: _, _, _, _, e => by cases e
  | .ctp _ :: _, _, _, _, e => by cases e
  | .lst _ :: _, _, _, _, e => by cases e
  | .clst _ :: _, _, _, _, e => by cases e
  | .dK _ :: _, _, _, _, e => by cases e
  | .dT _ :: _, _, _, _, e => by cases e
  | .cid _ :: _, _, _, _, e => by cases e
  | .ty _ :: _, _, _, _, e => by cases e
theorem strsD_map (ns : List Str) : strsD (ns.map D.str) = some ns := by
  induction ns with
  | nil => rfl
  | cons n ns ih => show (strsD (ns.map D.str)).map (n :: ·) = _; rw [ih]; rfl
def mJoin (mo ma : Mo AI) : Mo AI := fun s => (mo s).bind fun a s1 => match a with
  | .val (.str x) => (ma s1).bind fun b s2 => match (viewL s2 b).bind strsD with
    | some ys => if (ys.map (·.length)).sum + ys.length * x.length ≤ 16777216 then .ok (.val (.str (Txt.join x ys))) s2 else .no
    | none => .no
  | _ => .no
def rJoinY (K : PySem.W.Frag) : V → List V → Hp → VK → Prop := fun x xs H Q => ∃ a p, ∃ ys : List Str, x = .str a ∧ xs = [.ref p] ∧ (SqL K H p (ys.map V.str) ∨ SqT K H p (ys.map V.str)) ∧
    (ys.map (·.length)).sum + ys.length * a.length ≤ 16777216 ∧ Q (.str (Txt.join a ys)) H
theorem ei_join {to te : TE} {mo ma : Mo AI} (ho : Ei K ct H0 W to mo) (ha : Ei K ct H0 W te ma) : Ei K ct H0 W (tM1 (rJoinY K) to te) (mJoin mo ma) := fun S s σ H Q rel p =>
  ho S s σ H _ rel (Pst.bind bI p fun S1 s1 H1 x a st1 rel1 i1 p1 => by
    split at p1
    · rename_i z
      cases rp_str i1
      refine ⟨⟨z, rfl⟩, ha S1 s1 σ H1 _ rel1 (Pst.bind bI p1 fun S2 s2 H2 y b st2 rel2 i2 p2 => ?_)⟩
      split at p2
      · rename_i ys e
        split at p2
        · rename_i hz
          obtain ⟨l, e1, e2⟩ := Option.bind_eq_some_iff.mp e
          obtain ⟨q, us, rfl, k1, k2⟩ := viewL_ok rel2 i2 e1
          rw [strs_rp k2 e2] at k1
          exact ⟨z, q, ys, rfl, rfl, .inl k1, hz, p2.val rel2 (.str _)⟩
        · exact False.elim p2
      · exact False.elim p2
    · exact False.elim p1)
theorem pe_joinY {X : Cx} {K : PySem.W.Frag} {o e : Expr} {to te : TE} {apos pos : Pos} (hK : X.K = K) (ho : PE X o to) (he : PE X e te) (hs : starEach [e] X.env = [(false, eval e X.env)] := by rfl) (hbase : attributeBase o "join" X.env (eval o X.env) = eval o X.env := by rfl) (hline : (apos.endLine == pos.line) = true := by rfl) :
    PE X (.Call (.Attribute o "join" apos) [e] [] pos) (tM1 (rJoinY K) to te) := by subst hK; exact pe_join ho he hs hbase hline
def rMulS : R2 := fun x y H Q => ∃ a n, x = .str a ∧ y = .int n ∧ a.length ≤ 16 ∧ 0 ≤ n ∧ n ≤ 1048576 ∧ Q (.str (Txt.mul a n)) H
theorem op_mulS {X : Cx} : OpR X (binaryOp .Mult) rMulS := by
  intro pins s σ H x y v u Q I rx ry h
  obtain ⟨a, n, rfl, rfl, h1, h2, h3, q⟩ := h
  obtain ⟨t, rfl⟩ := rx
  obtain ⟨t', rfl⟩ := ry
  exact PySem.W.KXi.mul (n := a.length) rfl h1 (by omega) (by omega) fun t'' k _ _ => ⟨.str _, H, I.tok k, ⟨t'', rfl⟩, q⟩
def fMulS : Stt → AI → AI → Ro AI := fun s a b => match a, b with
  | .val (.str x), .val (.int n) => if x.length ≤ 16 ∧ 0 ≤ n ∧ n ≤ 1048576 then .ok (.val (.str (Txt.mul x n))) s else .no
  | _, _ => .no
theorem j_mulS : J2 K ct H0 rMulS fMulS := fun W S s σ H Hs Hs' x y a b Q rel ia ib p => by
  unfold fMulS at p
  split at p
  · rename_i z n
    cases rp_str ia
    cases rp_int ib
    split at p
    · rename_i hz
      exact ⟨z, n, rfl, rfl, hz.1, hz.2.1, hz.2.2, p.val rel (.str _)⟩
    · exact False.elim p
  · exact False.elim p
variable {X : Exn → Stt → Prop} {QA : AI → Stt → Prop} {N : Stt → Prop} {O : Rs → Prop}
theorem w_asgK {i : Nat} {m : Mo AI} (h : Wo (fun a s1 => ∃ c, a = .new c ∧ N ⟨s1.env.set i (some (.fz (.cid s1.M.length))), s1.M ++ [c]⟩) (fun x s => O (.er x s)) (m s)) : Ws N O (mAsgK i m s) := w_toS (w_mono h fun a s1 ⟨c, e, h⟩ => by subst e; exact h)
theorem w_sjoin {mo ma : Mo AI} (h : Wo (fun a s1 => ∃ x, a = .val (.str x) ∧ Wo (fun b s2 => ∃ ys, (viewL s2 b).bind strsD = some ys ∧ (ys.map (·.length)).sum + ys.length * x.length ≤ 16777216 ∧ QA (.val (.str (Txt.join x ys))) s2) X (ma s1)) X (mo s)) : Wo QA X (mJoin mo ma s) := w_bind (w_mono h fun a s1 ⟨x, e, h⟩ => by
  subst e; exact w_bind (w_mono h fun b s2 ⟨ys, e1, c, h⟩ => by
    show Wo QA X (match (viewL s2 b).bind strsD with | some ys => _ | none => _)
    rw [e1]; show Wo QA X (if _ then _ else _); rw [if_pos c]; exact h))
theorem w_mulS {x : Str} {n : Int} (c : x.length ≤ 16 ∧ 0 ≤ n ∧ n ≤ 1048576) (h : QA (.val (.str (Txt.mul x n))) s) : Wo QA X (fMulS s (.val (.str x)) (.val (.int n))) := by
  unfold fMulS; simp only []; rw [if_pos c]; exact h
end
end Y
namespace Y
open PySem L2 Z
def tx (l : List Nat) : Str := ⟨l.toArray⟩
theorem tx_inj {a b : List Nat} (h : tx a = tx b) : a = b := congrArg (fun x : Str => x.cps.toList) h
theorem tx_len (l : List Nat) : (tx l).length = l.length := by simp [tx, Str.length]
theorem tx_cat (a b : List Nat) : tx a ++ tx b = tx (a ++ b) := by
  show (⟨a.toArray ++ b.toArray⟩ : Str) = ⟨(a ++ b).toArray⟩
  simp
theorem tx_cut (l : List Nat) (lo hi : Option Int) : cutS (tx l) lo hi = tx (cutL l lo hi) := by
  unfold cutS cutL
  rw [tx_len]; rfl
theorem tx_in (a : List Nat) (c : Nat) : (!(Builtin.Str.occurrences (tx a) (tx [c]) 0 (tx a).length 1).isEmpty) = decide (c ∈ a) := StrLaws.found_one (tx a) c
theorem tx_strL (l : List Nat) : strL (tx l) = l.map fun c => .str (tx [c]) := rfl
theorem joinL_nil : ∀ ys : List (List Nat), TL.joinL [] ys = ys.flatten
  | [] => rfl
  | [p] => by simp [TL.joinL]
  | p :: q :: r => by
    show p ++ ([] ++ TL.joinL [] (q :: r)) = _
    rw [joinL_nil (q :: r)]; rfl
theorem tx_join0 (ys : List (List Nat)) : Txt.join (tx []) (ys.map tx) = tx ys.flatten := by
  rw [← joinL_nil]
  exact SX.join_S [] ys
section
variable {s : Stt} {X : Exn → Stt → Prop} {QA : AI → Stt → Prop}
theorem w_inS {a : List Nat} {c : Nat} (h : QA (.val (.bl (decide (c ∈ a)))) s) : Wo QA X (fIn s (.val (.str (tx [c]))) (.val (.str (tx a)))) := by
  unfold fIn
  rw [show inOf s (.val (.str (tx [c]))) (.val (.str (tx a))) = some (decide (c ∈ a)) from congrArg some (tx_in a c)]; exact h
theorem w_lenT {a : List Nat} (c : a.length ≤ sizeLine) (h : QA (.val (.int (a.length : Nat))) s) : Wo QA X (fLen s [.val (.str (tx a))]) := by
  refine w_len (d := .str (tx a)) (n := a.length) rfl ?_ h
  show (if (tx a).length ≤ sizeLine then some (tx a).length else none) = _
  rw [tx_len, if_pos c]
end
end Y
namespace Y
open PySem L2 Z
open PySem.W (AllAlike Sortable dataLe EachIs)
def pyD (d : D) : PyData := d.py.getD .none
def rSortY (K : PySem.W.Frag) : List V → Hp → VK → Prop := fun xs H Q => ∃ (q : Addr) (ts : List (V × D)), xs = [.ref q] ∧ SqL K H q (ts.map Prod.fst) ∧ (∀ t ∈ ts, Dp K H t.1 (pyD t.2)) ∧ AllAlike (ts.map fun t => pyD t.2) ∧ Sortable (ts.map fun t => pyD t.2) ∧ (∀ t ∈ ts, (pyD t.2).depth ≤ 40) ∧
  ∀ p, H p = none → Q (.ref p) (upd H p (.lst ((ts.mergeSort (dataLe false fun t => pyD t.2)).map Prod.fst)))
section
variable {X : Cx}
theorem each_vals : ∀ {ts : List (V × D)} {us : List Value}, Vals (ts.map Prod.fst) us → EachIs (fun u (t : V × D) => RelV t.1 u) us ts
  | [], _, .nil => .nil
  | _ :: _, _, .cons h r => .cons h (each_vals r)
theorem vals_each : ∀ {ts : List (V × D)} {us : List Value}, EachIs (fun u (t : V × D) => RelV t.1 u) us ts → Vals (ts.map Prod.fst) us
  | [], _, .nil => .nil
  | _ :: _, _, .cons h r => .cons h (vals_each r)
theorem each_reads {pins : List (Addr × Obj)} {σ : St} {H : Hp} {s : Shared} (I : Inv X pins σ H s) : ∀ {ts : List (V × D)} {us : List Value}, Vals (ts.map Prod.fst) us → (∀ t ∈ ts, Dp X.K H t.1 (pyD t.2)) → EachIs (fun u (t : V × D) => ∃ as, PySem.Reads s.heap u (pyD t.2) as) us ts
  | [], _, .nil, _ => .nil
  | t :: ts, _, .cons h r, hd => .cons (Dp.reads I (pyD t.2) t.1 _ (hd t (List.mem_cons_self ..)) h) (each_reads I r fun t' h' => hd t' (List.mem_cons_of_mem _ h'))
theorem cr_sortY' (hu : X.A.units + 70 < cLine) : CallR X (.builtin "sorted") (rSortY X.K) := by
  intro pins s σ H vs us Q I r h
  obtain ⟨a, ts, rfl, hs, hd, hal, hk, hdp, q⟩ := h
  obtain ⟨its, rv, hl, hz⟩ := I.list hs
  rw [Vals.ref1 r]
  rw [List.length_map] at hz
  refine PySem.W.sorted_data (enc := fun t : V × D => pyD t.2) hl.isList (each_vals rv) (each_reads I rv hd) hal hk hz (fun b hb => by have := hdp b hb; omega) fun out ho eo => ?_
  obtain ⟨ep, he'⟩ := PyProof.Rows.sortedAll_at s.heap its out.toArray
  have rv' := vals_each eo
  refine ⟨.ref _, upd H (s.heap.objs.size + 1) (.lst ((ts.mergeSort (dataLe false fun t => pyD t.2)).map Prod.fst)), I.laid (t' := s.toks) (fun _ _ => PyProof.Rows.sortedAll_old) (Nat.le_succ _) ⟨by rw [List.length_map, List.length_mergeSort]; exact hz, out, ep, rv', he'⟩, rfl, q _ (I.hok.fresh (Nat.le_succ _))⟩
theorem cr_sortY {K : PySem.W.Frag} (hK : X.K = K) (hu : X.A.units + 70 < cLine) : CallR X (.builtin "sorted") (rSortY K) := by subst hK; exact cr_sortY' hu
end
section
variable {K : PySem.W.Frag} {ct : Ct} {H0 : Hp} {W : WX}
def SortOk (l : List D) : Prop := (∀ d ∈ l, d.py.isSome = true) ∧ AllAlike (l.map pyD) ∧ Sortable (l.map pyD) ∧ (∀ d ∈ l, (pyD d).depth ≤ 40)
open Classical in
noncomputable def fSort (s : Stt) (as : List AI) : Ro AI := match as with
  | [a] => match viewL s a with
    | some l => if SortOk l then .ok (.new (.lst (l.mergeSort (dataLe false pyD)))) s else .no
    | none => .no
  | _ => .no
theorem RpL.zips {G : Hp} {α : Nat → Addr} {n : Nat} : ∀ {vs : List V} {l : List D}, RpL K G α n vs l → ∃ ts : List (V × D), ts.map Prod.fst = vs ∧ ts.map Prod.snd = l ∧ ∀ t ∈ ts, Rp K G α n t.1 t.2
  | _, _, .nil => ⟨[], rfl, rfl, fun t h => by simp at h⟩
  | _, _, .cons (v := v) (d := d) h r => by
    obtain ⟨ts, e1, e2, e3⟩ := RpL.zips r
    refine ⟨(v, d) :: ts, by rw [List.map_cons, e1], by rw [List.map_cons, e2], fun t ht => ?_⟩
    rcases List.mem_cons.mp ht with rfl | ht
    · exact h
    · exact e3 t ht
theorem RpL.unzip {G : Hp} {α : Nat → Addr} {n : Nat} : ∀ {ts : List (V × D)}, (∀ t ∈ ts, Rp K G α n t.1 t.2) → RpL K G α n (ts.map Prod.fst) (ts.map Prod.snd)
  | [], _ => .nil
  | t :: ts, h => .cons (h t (List.mem_cons_self ..)) (RpL.unzip fun t' h' => h t' (List.mem_cons_of_mem _ h'))
theorem jb_sort : JB K ct H0 (rSortY K) fSort := fun W S s σ H Hs vs as Q rel ia p => by
  unfold fSort at p
  split at p
  · rename_i a
    obtain ⟨v, rfl, i⟩ := as1 ia
    split at p
    · rename_i l e
      split at p
      · rename_i hok
        obtain ⟨h1, h2, h3, h4⟩ := hok
        obtain ⟨q, us, rfl, k1, k2⟩ := viewL_ok rel i e
        obtain ⟨ts, e1, e2, e3⟩ := RpL.zips k2
        have em : ts.map (fun t => pyD t.2) = l.map pyD := by rw [← e2, List.map_map]; rfl
        have hm : ∀ t ∈ ts, t.2 ∈ l := fun t ht => by rw [← e2]; exact List.mem_map_of_mem ht
        refine ⟨q, ts, rfl, by rw [e1]; exact k1, fun t ht => ?_, by rw [em]; exact h2, by rw [em]; exact h3, fun t ht => h4 _ (hm t ht), fun r hr => ?_⟩
        · obtain ⟨x, hx⟩ := Option.isSome_iff_exists.mp (h1 _ (hm t ht))
          have := uDp (rp_dp ((e3 t ht).mono rel.sub (fun _ _ => rfl) (Nat.le_refl _)) hx)
          unfold pyD; rw [hx]
          exact this
        · refine p.newL rel hr ?_
          have es : l.mergeSort (dataLe false pyD) = (ts.mergeSort (dataLe false fun t => pyD t.2)).map Prod.snd := by
            rw [← e2]
            refine (List.map_mergeSort (fun a _ b _ => ?_)).symm
            rfl
          rw [es]
          exact RpL.unzip fun t ht => e3 t (List.mem_mergeSort.mp ht)
      · exact False.elim p
    · exact False.elim p
  · exact False.elim p
variable {s : Stt} {X : Exn → Stt → Prop} {QA : AI → Stt → Prop}
theorem w_sort {a : AI} {l : List D} (e : viewL s a = some l) (c : SortOk l) (h : QA (.new (.lst (l.mergeSort (dataLe false pyD)))) s) : Wo QA X (fSort s [a]) := by
  unfold fSort; simp only []; rw [e]; simp only []; rw [if_pos c]; exact h
end
end Y
namespace L2
open PySem PySem.Spec PyProof.Rows
end L2
namespace Y
open PySem L2 Z
section
variable {K : PySem.W.Frag} {ct ct2 : Ct} {H0 : Hp} {W : WX} {S : Sh} {s : Stt} {σ : St} {H : Hp}
def unX : Option Ent → Option Ent
  | some (.xn _) => none
  | e => e
def dropX (i : Nat) (s : Stt) : Stt := ⟨(s.env.map unX).set i none, s.M⟩
def enterX (i : Nat) (x : Exn) (s : Stt) : Stt := ⟨(s.env.map unX).set i (some (.xn x)), s.M⟩
def leaveX (i : Nat) : Rs → Rs
  | .nx s => .nx (dropX i s)
  | .bk s => .bk (dropX i s)
  | .ct s => .ct (dropX i s)
  | .rt a s => .rt a (dropX i s)
  | _ => .no
def mTryA (cat : Nat → Option Bool) (i : Nat) (mb ms : Ms) : Ms := fun s => match mb s with
  | .er x s1 => match cat x.cls with
    | some true => leaveX i (ms (enterX i x s1))
    | some false => .er x s1
    | none => .no
  | r => r
def noEr : Rs → Rs
  | .er _ _ => .no
  | r => r
def clauses : List ((Nat → Option Bool) × Ms) → Exn → Ms
  | [], x => fun s => .er x s
  | (cat, ms) :: l, x => fun s => match cat x.cls with
    | some true => noEr (ms s)
    | some false => clauses l x s
    | none => .no
def mTryM (l : List ((Nat → Option Bool) × Ms)) (mb : Ms) : Ms := fun s => match mb s with
  | .er x s1 => clauses l x s1
  | r => r
def xnAt (s : Stt) (i : Nat) : Option Exn := match (s.env[i]?).getD none with
  | some (.xn x) => some x
  | _ => none
def mXf (i c : Nat) (f : Str) : Mo AI := fun s => match xnAt s i with
  | some x => if x.cls = c then (match x.fs.lookup f with | some d => .ok (.val d) s | none => .no) else .no
  | none => .no
theorem lookup_rp {f : Str} {G : Hp} {α : Nat → Addr} {n : Nat} : ∀ {fvs : List (Str × V)} {fs : List (Str × D)} {d : D}, fvs.map Prod.fst = fs.map Prod.fst → RpL K G α n (fvs.map Prod.snd) (fs.map Prod.snd) → fs.lookup f = some d → ∃ v, fvs.lookup f = some v ∧ Rp K G α n v d
  | [], [], _, _, _, e => by cases e
  | (g, v) :: fvs, (g', d') :: fs, d, hk, .cons hr r, e => by
    rw [List.map_cons, List.map_cons] at hk
    obtain ⟨h1, h2⟩ := List.cons.inj hk
    have h1 : g = g' := h1
    subst h1
    rw [List.lookup_cons] at e ⊢
    cases q : (f == g) with
    | true => rw [q] at e; cases e; exact ⟨v, rfl, hr⟩
    | false => rw [q] at e; exact lookup_rp h2 r e
def mIsX (i : Nat) (tbl : Nat → Option Bool) : Mo AI := fun s => match xnAt s i with
  | some x => match tbl x.cls with
    | some b => .ok (.val (.bl b)) s
    | none => .no
  | none => .no
def mRaise (c : Nat) : Ms := fun s => .er ⟨c, []⟩ s
theorem sv_raise {c : Nat} : Sv K ct H0 W (tRaiseZ (ct c) W) (mRaise c) := fun S s σ H Dn rel p => p S σ H none .refl rel (.inl ⟨rfl, rfl⟩)
def mRaiseA (c : Nat) (f : Str) (m : Mo (List D)) : Ms := fun s => (m s).toS fun ds s1 => match ds with
  | [_, x] => .er ⟨c, [(f, x)]⟩ s1
  | _ => .no
end
end Y
namespace Y
open PySem L2 Z
def mFn0 (np n : Nat) (body : Ms) : Mf := mFn np n fun s => noEr (body s)
def Fx (P : AI → List Cn → Prop) (E : Exn → List Cn → Prop) : Fr → Prop
  | .ok a M => P a M
  | .er x M => E x M
  | .no => False
def Ox (P : AI → List Cn → Prop) (E : Exn → List Cn → Prop) : Rs → Prop
  | .rt a s => P a s.M
  | .er x s => E x s.M
  | _ => False
section
variable {QA : AI → Stt → Prop} {X : Exn → Stt → Prop} {N : Stt → Prop} {O : Rs → Prop} {s : Stt} {M : List Cn} {P P' : AI → List Cn → Prop} {E E' : Exn → List Cn → Prop}
theorem f_fnX {np n : Nat} {b : Ms} {ds : List D} (hl : ds.length = np) (h : Ws (fun s => P (.val .non) s.M) (Ox P E) (b ⟨ds.map (fun d => some (.fz d)) ++ List.replicate (n - ds.length) none, M⟩)) : Fx P E (mFn np n b ds M) := by
  unfold mFn
  rw [if_pos hl]
  cases q : b ⟨ds.map (fun d => some (.fz d)) ++ List.replicate (n - ds.length) none, M⟩ <;> rw [q] at h <;> exact h
theorem f_fn0 {np n : Nat} {b : Ms} {ds : List D} (hl : ds.length = np) (h : Ws (fun s => P (.val .non) s.M) (Oe P) (b ⟨ds.map (fun d => some (.fz d)) ++ List.replicate (n - ds.length) none, M⟩)) : Fo P (mFn0 np n b ds M) := by
  refine f_fn hl ?_
  cases q : b ⟨ds.map (fun d => some (.fz d)) ++ List.replicate (n - ds.length) none, M⟩ <;> rw [q] at h <;> exact h
theorem fx_eq {r : Fr} {a : AI} {M' : List Cn} (e : r = .ok a M') (h : P a M') : Fx P E r := by subst e; exact h
theorem fx_ok {r : Fr} {a : AI} {M' : List Cn} (h : Fx (fun a' M'' => a' = a ∧ M'' = M') (fun _ _ => False) r) : r = .ok a M' := by
  cases r with
  | ok a' M'' => obtain ⟨rfl, rfl⟩ := h; rfl
  | er _ _ => exact False.elim h
  | no => exact False.elim h
theorem w_call {f : Mf} {ma : Mo (List D)} (h : Wo (fun ds s1 => Fx (fun a M' => QA a ⟨s1.env, M'⟩) (fun x M' => X x ⟨s1.env, M'⟩) (f ds s1.M)) X (ma s)) : Wo QA X (mCall f ma s) := w_bind (w_mono h fun ds s1 h => by
  show Wo QA X (match f ds s1.M with | .ok a M' => _ | .er x M' => _ | .no => _)
  cases q : f ds s1.M <;> rw [q] at h <;> exact h)
theorem w_raise {c : Nat} (h : O (.er ⟨c, []⟩ s)) : Ws N O (mRaise c s) := h
theorem w_raiseA {c : Nat} {f : Str} {m : Mo (List D)} (h : Wo (fun ds s1 => ∃ w x, ds = [w, x] ∧ O (.er ⟨c, [(f, x)]⟩ s1)) (fun x s => O (.er x s)) (m s)) : Ws N O (mRaiseA c f m s) := w_toS (w_mono h fun ds s1 ⟨w, x, e, h⟩ => by subst e; exact h)
/-- behind a suite -/
def Olv (i : Nat) (O : Rs → Prop) : Rs → Prop
  | .bk s => O (.bk (dropX i s))
  | .ct s => O (.ct (dropX i s))
  | .rt a s => O (.rt a (dropX i s))
  | _ => False
def Otry (cat : Nat → Option Bool) (i : Nat) (ms : Ms) (N : Stt → Prop) (O : Rs → Prop) : Rs → Prop
  | .er x s1 => (cat x.cls = some true ∧ Ws (fun s => N (dropX i s)) (Olv i O) (ms (enterX i x s1))) ∨ (cat x.cls = some false ∧ O (.er x s1))
  | r => O r
theorem w_tryA {cat : Nat → Option Bool} {i : Nat} {mb ms : Ms} (h : Ws N (Otry cat i ms N O) (mb s)) : Ws N O (mTryA cat i mb ms s) := by
  unfold mTryA
  cases q : mb s with
  | er x s1 =>
    rw [q] at h
    rcases h with ⟨e, h⟩ | ⟨e, h⟩
    · simp only []
      rw [e]
      simp only []
      cases q2 : ms (enterX i x s1) <;> rw [q2] at h <;> exact h
    · simp only []
      rw [e]
      exact h
  | _ => rw [q] at h; exact h
theorem w_xf {i c : Nat} {f : Str} {x : Exn} {d : D} (e : xnAt s i = some x) (hc : x.cls = c) (l : x.fs.lookup f = some d) (h : QA (.val d) s) : Wo QA X (mXf i c f s) := by
  unfold mXf; rw [e]; simp only []; rw [if_pos hc, l]; exact h
theorem w_isX {i : Nat} {tbl : Nat → Option Bool} {x : Exn} {b : Bool} (e : xnAt s i = some x) (l : tbl x.cls = some b) (h : QA (.val (.bl b)) s) : Wo QA X (mIsX i tbl s) := by
  unfold mIsX; rw [e]; simp only []; rw [l]; exact h
def Ocl (l : List ((Nat → Option Bool) × Ms)) (N : Stt → Prop) (O : Rs → Prop) : Rs → Prop
  | .er x s1 => Ws N O (clauses l x s1)
  | r => O r
theorem w_tryM {l : List ((Nat → Option Bool) × Ms)} {mb : Ms} (h : Ws N (Ocl l N O) (mb s)) : Ws N O (mTryM l mb s) := by
  unfold mTryM
  cases q : mb s <;> rw [q] at h <;> exact h
end
end Y
namespace Y
open PySem L2 Z
section
variable {K : PySem.W.Frag} {ct : Ct} {H0 : Hp} {W : WX}
def fAbs (s : Stt) (as : List AI) : Ro AI := match as with
  | [.val (.int i)] => .ok (.val (.int (if i < 0 then -i else i))) s
  | _ => .no
def sIdx (a b : Str) : Option Nat := (Builtin.Str.occurrences a b 0 a.length 1).head?
def mSIdx (mo ma : Mo AI) : Mo AI := fun s => (mo s).bind fun a s1 => match a with
  | .val (.str x) => (ma s1).bind fun b s2 => match b with
    | .val (.str y) => match sIdx x y with
      | some i => .ok (.val (.int (i : Nat))) s2
      | none => .no
    | _ => .no
  | _ => .no
end
section
variable {s : Stt} {X : Exn → Stt → Prop} {QA : AI → Stt → Prop} {QI : Im → Stt → Prop} {m1 m2 : Mo AI}
theorem w_abs {i : Int} (h : QA (.val (.int (if i < 0 then -i else i))) s) : Wo QA X (fAbs s [.val (.int i)]) := h
theorem w_sidx (h : Wo (fun a s1 => ∃ x, a = .val (.str x) ∧ Wo (fun b s2 => ∃ y i, b = .val (.str y) ∧ sIdx x y = some i ∧ QA (.val (.int (i : Nat))) s2) X (m2 s1)) X (m1 s)) : Wo QA X (mSIdx m1 m2 s) := w_bind (w_mono h fun a s1 ⟨x, e, h⟩ => by
  subst e
  exact w_bind (w_mono h fun b s2 ⟨y, i, e, e2, h⟩ => by
    subst e
    show Wo QA X (match sIdx x y with | some i => _ | none => _)
    rw [e2]; exact h))
open Classical in
theorem w_rng3 {r : Mo (List AI)} (h : Wo (fun as s1 => ∃ (i j c : Int) (n : Nat), as = [.val (.int i), .val (.int j), .val (.int c)] ∧ RgC i j c n ∧ QI ⟨rngC i c n, none⟩ s1) X (r s)) : Wo QI X (mRng3 r s) := w_bind (w_mono h fun as s1 ⟨i, j, c, n, e, hz, h⟩ => by
  subst e
  have en : (Builtin.Range.rangeSize i j c).toNat = n := by rw [hz.2.2.2]; rfl
  show Wo QI X (if RgC i j c (Builtin.Range.rangeSize i j c).toNat then Ro.ok ⟨rngC i c (Builtin.Range.rangeSize i j c).toNat, none⟩ s1 else _)
  rw [en, if_pos hz]; exact h)
theorem rngC_get {lo c : Int} {n i : Nat} {d : D} (h : (rngC lo c n)[i]? = some d) : i < n ∧ d = .int (lo + (i : Int) * c) := by
  unfold rngC at h
  rw [List.getElem?_map] at h
  obtain ⟨k, e1, e2⟩ := Option.map_eq_some_iff.mp h
  obtain ⟨h1, h2⟩ := List.getElem?_eq_some_iff.mp e1
  rw [List.length_range] at h1
  rw [List.getElem_range] at h2
  subst h2
  exact ⟨h1, e2.symm⟩
theorem rngC_len {lo c : Int} {n : Nat} : (rngC lo c n).length = n := by unfold rngC; rw [List.length_map, List.length_range]
end
end Y
namespace Y
open PySem L2 Z
inductive KD where
  | keys | vals | items
def kD : Key → D
  | .inl i => .int i
  | .inr x => .str x
def dIt : KD → List (Key × D) → List D
  | .keys, l => l.map fun p => kD p.1
  | .vals, l => l.map Prod.snd
  | .items, l => l.map fun p => .tup [kD p.1, p.2]
def dI : KD → Nat → TI
  | .keys, i => iKeys (tVar i)
  | .vals, i => iVals (tVar i)
  | .items, i => iItems (tVar i)
section
variable {K : PySem.W.Frag} {ct : Ct} {H0 : Hp} {W : WX} {S : Sh} {s : Stt} {σ : St} {H : Hp}
theorem kD_rp {G : Hp} {α : Nat → Addr} {n : Nat} (k : Key) : Rp K G α n (kV k) (kD k) := by
  cases k with
  | inl i => exact .int i
  | inr x => exact .str x
theorem RpK.at {G : Hp} {α : Nat → Addr} {n : Nat} : ∀ {kvs : List (Key × V)} {l : List (Key × D)} {i : Nat} {k : Key} {d : D}, RpK K G α n kvs l → l[i]? = some (k, d) → ∃ v, kvs[i]? = some (k, v) ∧ Rp K G α n v d
  | _, _, _, _, _, .nil, e => by simp at e
  | _, _, 0, _, _, .cons a _, e => by simp at e; obtain ⟨rfl, rfl⟩ := e; exact ⟨_, rfl, a⟩
  | _, _, i + 1, _, _, .cons _ r, e => by
    simp at e
    obtain ⟨v, h1, h2⟩ := r.at e
    exact ⟨v, by simpa using h1, h2⟩
theorem RpK.step' {G G' : Hp} {α α' : Nat → Addr} {n n' : Nat} (g : Same G G') (ha : ∀ k, k < n → α' k = α k) (hn : n ≤ n') : ∀ {kvs : List (Key × V)} {l : List (Key × D)}, RpK K G α n kvs l → RpK K G' α' n' kvs l
  | _, _, .nil => .nil
  | _, _, .cons a r => .cons (a.mono g ha hn) (r.step' g ha hn)
def dJ : KD → Addr → Obj → List (Key × V) → It
  | .keys, d, o, kvs => Itk d o kvs
  | .vals, d, o, kvs => Itd d o kvs
  | .items, d, o, kvs => Iti d o kvs
theorem wk_d {kd : KD} {d : Addr} {o : Obj} {kvs : List (Key × V)} {l : List (Key × D)} (hd : H d = some (.frz o (.dK kvs))) (hl : S.lab d = none) (r : RpK K S.G S.α s.M.length kvs l) : Wk K ct H0 S s.M.length H (dJ kd d o kvs) ⟨dIt kd l, none⟩ := fun S1 s1 σ1 H1 st rel _ => by
  have h1 := (st.fr d _ hd hl).1
  have r1 := r.step' st.g st.al st.le
  have hlen := r.len
  cases kd with
  | keys =>
    refine ⟨fun i x e => ?_, ⟨h1, by show kvs.length ≤ (l.map _).length; rw [List.length_map]; omega⟩⟩
    have e : (l.map fun p => kD p.1)[i]? = some x := e
    rw [List.getElem?_map] at e
    obtain ⟨⟨k, y⟩, e1, rfl⟩ := Option.map_eq_some_iff.mp e
    obtain ⟨v, e2, e3⟩ := r1.at e1
    refine ⟨⟨h1, (List.getElem?_eq_some_iff.mp e2).1⟩, fun x H2 hy => ?_⟩
    obtain ⟨rfl, k', v', q1, rfl⟩ := hy
    rw [e2] at q1; cases q1
    exact ⟨S1, .refl, rel, kD_rp k⟩
  | vals =>
    refine ⟨fun i x e => ?_, ⟨h1, by show kvs.length ≤ (l.map _).length; rw [List.length_map]; omega⟩⟩
    have e : (l.map Prod.snd)[i]? = some x := e
    rw [List.getElem?_map] at e
    obtain ⟨⟨k, y⟩, e1, rfl⟩ := Option.map_eq_some_iff.mp e
    obtain ⟨v, e2, e3⟩ := r1.at e1
    refine ⟨⟨h1, (List.getElem?_eq_some_iff.mp e2).1⟩, fun x H2 hy => ?_⟩
    obtain ⟨rfl, k', q1⟩ := hy
    rw [e2] at q1; cases q1
    exact ⟨S1, .refl, rel, e3⟩
  | items =>
    refine ⟨fun i x e => ?_, ⟨h1, by show kvs.length ≤ (l.map _).length; rw [List.length_map]; omega⟩⟩
    have e : (l.map fun p => D.tup [kD p.1, p.2])[i]? = some x := e
    rw [List.getElem?_map] at e
    obtain ⟨⟨k, y⟩, e1, rfl⟩ := Option.map_eq_some_iff.mp e
    obtain ⟨v, e2, e3⟩ := r1.at e1
    refine ⟨⟨h1, (List.getElem?_eq_some_iff.mp e2).1⟩, fun x H2 hy => ?_⟩
    obtain ⟨T, k', v', q1, rfl, hT, rfl⟩ := hy
    rw [e2] at q1; cases q1
    exact new_tup rel hT (.cons (kD_rp k) (.cons e3 .nil))
theorem dI_go {kd : KD} {i : Nat} {d : Addr} {o : Obj} {kvs : List (Key × V)} {R : It → Hp → Prop} (hs : σ[i]? = some (some (.ref d))) (hd : H d = some (.frz o (.dK kvs))) (h : R (dJ kd d o kvs) H) : dI kd i σ H R := by
  cases kd with
  | keys => exact ⟨_, hs, d, o, rfl, .inl ⟨kvs, hd, h⟩⟩
  | vals => exact ⟨_, hs, d, o, kvs, rfl, hd, h⟩
  | items => exact ⟨_, hs, d, o, kvs, rfl, hd, h⟩
def Ct.lkd (ct : Ct) (d : Option Addr) : Ct := ⟨ct.c, ct.xa, d⟩
theorem CnOk.lkd {b : Option Addr} {n : Nat} {p : Addr} {c : Cn} (h : CnOk K ct S n H p c) : CnOk K (ct.lkd b) S n H p c := by
  cases c <;> exact h
theorem CnOk.unlkd {b : Option Addr} {n : Nat} {p : Addr} {c : Cn} (h : CnOk K (ct.lkd b) S n H p c) : CnOk K ct S n H p c := by
  cases c <;> exact h
/-- a frozen dict is locked -/
theorem Rel.lock {d : Addr} {od : Obj} {kvs : List (Key × V)} (hlk : ct.lk = none) (r : Rel K ct H0 S s σ H) (hg : S.G d = some (.dK kvs)) : H d = some (.dK kvs) ∧ Rel K (ct.lkd (some d)) H0 S s σ (upd H d (.frz od (.dK kvs))) := by
  have hs : Same S.G H := by have := r.sub; rw [hlk, U0] at this; exact this
  have hd := hs _ _ hg
  have ne : ∀ {a : Addr} {l : Lab}, S.lab a = some l → a ≠ d := fun {a l} h z => by subst z; rw [(r.lg a l h).1] at hg; cases hg
  have cn : ∀ {a : Addr} {l : Lab} {c : Cn}, S.lab a = some l → CnOk K ct S s.M.length H a c → CnOk K (ct.lkd (some d)) S s.M.length (upd H d (.frz od (.dK kvs))) a c := fun {a l c} hl h => (h.mono (H' := upd H d (.frz od (.dK kvs))) (fun _ _ e => e) (fun _ _ => rfl) (Nat.le_refl _) (fun o e => by rw [upd_ne (ne hl)]; exact e)).lkd
  refine ⟨hd, ⟨fun a u e => ?_, fun a l e => ?_, fun a e => r.dom a (upd_none.mp e).2, r.len, fun i en q => ?_, fun k c q => ?_⟩⟩
  · show U (some d) _ a = some u
    by_cases z : a = d
    · subst z
      rw [hg] at e; cases e
      unfold U; rw [if_pos rfl, upd_same]; rfl
    · unfold U; rw [if_neg (by simp; exact fun q => z q.symm), upd_ne z]; exact hs _ _ e
  · obtain ⟨h1, o, h2⟩ := r.lg a l e
    exact ⟨h1, o, by rw [upd_ne (ne e)]; exact h2⟩
  · have hh := r.slot i en q
    cases en with
    | fz x => exact hh
    | xn x => exact xn_mono (S := S) (n := s.M.length) (H := H) (fun _ _ e => e) (fun _ _ => rfl) (Nat.le_refl _) rfl hh
    | ow c =>
      obtain ⟨p, h1, h2, h3, h4, h5⟩ := hh
      exact ⟨p, h1, h2, h3, h4, cn h3 h5⟩
  · obtain ⟨h1, h2⟩ := r.ids k c q
    exact ⟨h1, cn h1 h2⟩
theorem Rel.unlock {d : Addr} {kvs : List (Key × V)} {S' : Sh} {s' : Stt} {H' : Hp} (hlk : ct.lk = none) (r : Rel K (ct.lkd (some d)) H0 S' s' σ H') (hg : S'.G d = some (.dK kvs)) : Rel K ct H0 S' s' σ (upd H' d (.dK kvs)) := by
  have ne : ∀ {a : Addr} {l : Lab}, S'.lab a = some l → a ≠ d := fun {a l} h z => by subst z; rw [(r.lg a l h).1] at hg; cases hg
  have cn : ∀ {a : Addr} {l : Lab} {c : Cn}, S'.lab a = some l → CnOk K (ct.lkd (some d)) S' s'.M.length H' a c → CnOk K ct S' s'.M.length (upd H' d (.dK kvs)) a c := fun {a l c} hl h => (h.mono (H' := upd H' d (.dK kvs)) (fun _ _ e => e) (fun _ _ => rfl) (Nat.le_refl _) (fun o e => by rw [upd_ne (ne hl)]; exact e)).unlkd
  refine ⟨fun a u e => ?_, fun a l e => ?_, fun a e => r.dom a (upd_none.mp e).2, r.len, fun i en q => ?_, fun k c q => ?_⟩
  · rw [hlk, U0]
    by_cases z : a = d
    · subst z
      rw [hg] at e; cases e; exact upd_same
    · rw [upd_ne z]
      have := r.sub a u e
      have h2 : U (some d) H' a = some u := this
      unfold U at h2; rw [if_neg (by simp; exact fun q => z q.symm)] at h2; exact h2
  · obtain ⟨h1, o, h2⟩ := r.lg a l e
    exact ⟨h1, o, by rw [upd_ne (ne e)]; exact h2⟩
  · have hh := r.slot i en q
    cases en with
    | fz x => exact hh
    | xn x => exact xn_mono (S := S') (n := s'.M.length) (H := H') (fun _ _ e => e) (fun _ _ => rfl) (Nat.le_refl _) rfl hh
    | ow c =>
      obtain ⟨p, h1, h2, h3, h4, h5⟩ := hh
      exact ⟨p, h1, h2, h3, h4, cn h3 h5⟩
  · obtain ⟨h1, h2⟩ := r.ids k c q
    exact ⟨h1, cn h1 h2⟩
theorem Stp.lockd {d : Addr} {od : Obj} {u : HO} {S' : Sh} {n n' : Nat} {H' : Hp} (hd : H d = some u) (t : Stp S n (upd H d (.frz od u)) S' n' H') : Stp S n H S' n' (upd H' d u) where
  g := t.g
  le := t.le
  al := t.al
  fr := fun a o h l => by
    by_cases z : a = d
    · subst z
      rw [hd] at h; cases h
      exact ⟨upd_same, (t.fr a _ upd_same l).2⟩
    · obtain ⟨h1, h2⟩ := t.fr a o (by rw [upd_ne z]; exact h) l
      exact ⟨by rw [upd_ne z]; exact h1, h2⟩
  gn := fun a o e => by
    rcases t.gn a o e with h | h | h
    · exact .inl h
    · exact .inr (.inl (upd_none.mp h).2)
    · exact .inr (.inr h)
  dom := fun a h => (upd_none.mp (t.dom a (upd_none.mp h).2)).2
noncomputable def mLcD (kd : KD) (i : Nat) (ws : List Nat) (g : Tg) (c : Mo Bool) (e : Mo AI) : Mo AI := fun s => match entAt s i with
  | some (.fz (.dK l)) => mLc ws (fun s => .ok ⟨dIt kd l, none⟩ s) g c e s
  | some (.ow (.dK l)) => (mLc ws (fun s => .ok ⟨dIt kd l, none⟩ s) g c e ⟨s.env.set i none, s.M⟩).bind fun a s1 => .ok a ⟨s1.env.set i (some (.ow (.dK l))), s1.M⟩
  | _ => .no
theorem mLc_er {ws : List Nat} {im : Im} {g : Tg} {c : Mo Bool} {e : Mo AI} {x : Exn} {s s' : Stt} : mLc ws (fun s => .ok im s) g c e s ≠ .er x s' := fun h => by
  have h : (match lcN ws g c (mV e) im.ck im.xs [] (wipeS ws s) with | .ok l s2 => Ro.ok (AI.new (.lst l)) ⟨rest s.env s2.env ws, s2.M⟩ | _ => .no) = .er x s' := h
  split at h <;> cases h
theorem set_self {σ : St} {i : Nat} {v : V} (h : σ[i]? = some (some v)) : σ.set i (some v) = σ := by
  obtain ⟨h1, h2⟩ := List.getElem?_eq_some_iff.mp h
  rw [← h2]; exact List.set_getElem_self h1
theorem ei_lcD {kd : KD} {i : Nat} {js ws : List Nat} {g : TG} {tt : TT} {te : TE} {f : Tg} {c : Mo Bool} {e : Mo AI} (hlk : ct.lk = none) (hg : ∀ b, Sg K (ct.lkd b) H0 js g f) (hjs : ∀ j ∈ js, j ∈ ws) (hc : ∀ b, Et K (ct.lkd b) H0 W0 tt c) (he : ∀ b, Ei K (ct.lkd b) H0 W0 te e) :
    Ei K ct H0 W (tLockE (tLc (dI kd i) g tt te ws)) (mLcD kd i ws f c e) := fun S s σ H Q rel p => by
  have ect : ct.lkd none = ct := by cases ct; cases hlk; rfl
  unfold mLcD at p
  split at p
  · rename_i l en
    obtain ⟨v, h1, h2⟩ := rel.slot i _ (entAt_eq en)
    cases h2 with
    | @dK d kvs _ k1 k2 k3 =>
      have rk := RpK.of k2 k3
      obtain ⟨hd, _⟩ := rel.lock (od := default) hlk k1
      have hlab : S.lab d = none := by
        cases q : S.lab d with
        | none => rfl
        | some z => rw [(rel.lg d z q).1] at k1; cases k1
      refine ⟨d, _, hd, trivial, fun od => ?_⟩
      have rl := (rel.lock (od := od) hlk k1).2
      refine ei_lcAt (K := K) (ct := ct.lkd (some d)) (H0 := H0) (W := W0) (S := S) (s := s) (mi := fun s => .ok ⟨dIt kd l, none⟩ s) (fun R q => dI_go h1 upd_same (q S _ _ .refl rl (wk_d upd_same hlab rk))) (hg _) hjs (hc _) (he _) ?_
      have hne : ∀ x s', mLc ws (fun s => .ok ⟨dIt kd l, none⟩ s) f c e s ≠ .er x s' := fun _ _ => mLc_er
      generalize mLc ws (fun s => .ok ⟨dIt kd l, none⟩ s) f c e s = R at p hne
      cases R with
      | no => exact p
      | er x s' => exact absurd rfl (hne _ _)
      | ok a s' =>
        intro S' b H' st rel' it
        have hd' := (st.fr d _ upd_same hlab).1
        have g' : S'.G d = some (.dK kvs) := st.g _ _ k1
        refine ⟨hd', p S' b _ (st.lockd hd) (rel'.unlock hlk g') ?_⟩
        cases a with
        | val x => exact it
        | slot j => exact it
        | new c' =>
          obtain ⟨pp, rfl, i1, i2, i3, i4, i5⟩ := it
          have ne : pp ≠ d := fun z => by subst z; rw [i3] at g'; cases g'
          exact ⟨pp, rfl, (upd_none.mp i1).2, i2, i3, i4, (i5.mono (H' := upd H' d (.dK kvs)) (fun _ _ e => e) (fun _ _ => rfl) (Nat.le_refl _) (fun o e => by rw [upd_ne ne]; exact e)).unlkd⟩
  · rename_i l en
    obtain ⟨d, h1, h2, h3, h4, h5⟩ := rel.slot i _ (entAt_eq en)
    obtain ⟨kvs, hd, k2, k3⟩ := h5
    have hgd := (rel.lg d _ h3).1
    have rk : RpK K (S.un i).G (S.un i).α s.M.length kvs l := RpK.of k2 k3
    have hlab : (S.un i).lab d = none := by show (if S.lab d = some (.slot i) then none else S.lab d) = none; rw [if_pos h3]
    refine ⟨d, _, hd, trivial, fun od => ?_⟩
    have rl : Rel K ct H0 (S.un i) ⟨s.env.set i none, s.M⟩ σ (upd H d (.frz od (.dK kvs))) := rel.setN.updU hlab hgd
    refine ei_lcAt (K := K) (ct := ct) (H0 := H0) (W := W0) (S := S.un i) (s := ⟨s.env.set i none, s.M⟩) (mi := fun s => .ok ⟨dIt kd l, none⟩ s) (fun R q => dI_go h1 upd_same (q (S.un i) _ _ .refl rl (wk_d (s := ⟨s.env.set i none, s.M⟩) upd_same hlab rk))) (by have := hg none; rw [ect] at this; exact this) hjs (by have := hc none; rw [ect] at this; exact this) (by have := he none; rw [ect] at this; exact this) ?_
    have hne : ∀ x s', mLc ws (fun s => .ok ⟨dIt kd l, none⟩ s) f c e ⟨s.env.set i none, s.M⟩ ≠ .er x s' := fun _ _ => mLc_er
    generalize mLc ws (fun s => .ok ⟨dIt kd l, none⟩ s) f c e ⟨s.env.set i none, s.M⟩ = R at p hne
    cases R with
    | no => exact p
    | er x s' => exact absurd rfl (hne _ _)
    | ok a s' =>
      intro S' b H' st rel' it
      obtain ⟨hd', hl'⟩ := st.fr d _ upd_same hlab
      have hg' : S'.G d = none := by
        cases q : S'.G d with
        | none => rfl
        | some o =>
          rcases st.gn d o q with z | z | ⟨z, z'⟩
          · have z : S.G d = some o := z; rw [hgd] at z; cases z
          · rw [upd_same] at z; cases z
          · rw [hlab] at z'; cases z'
      have rk' := rk.step' st.g st.al st.le
      have r2 := (rel'.updU (o := .dK kvs) hl' hg').setOw (i := i) (c := .dK l) h2 hl' hg' rfl ⟨kvs, upd_same, rk'.keys, rk'.vals⟩
      rw [set_self h1] at r2
      have hneq : ∀ {a : Addr}, S.lab a = none → a ≠ d := fun {a} ha z => by subst z; rw [h3] at ha; cases ha
      refine ⟨hd', p (S'.cl i d) b _ ⟨st.g, st.le, st.al, fun a o ha la => ?_, fun a o ga => ?_, fun a ha => ?_⟩ r2 ?_⟩
      · have lu : (S.un i).lab a = none := by show (if S.lab a = some (.slot i) then none else S.lab a) = none; rw [la]; rfl
        obtain ⟨z1, z2⟩ := st.fr a o (by rw [upd_ne (hneq la)]; exact ha) lu
        refine ⟨by rw [upd_ne (hneq la)]; exact z1, ?_⟩
        show (if a = d then some (Lab.slot i) else if S'.lab a = some (.slot i) then none else S'.lab a) = none
        rw [if_neg (hneq la), z2]; rfl
      · rcases st.gn a o ga with z | z | ⟨z, z'⟩
        · exact .inl z
        · exact .inr (.inl (upd_none.mp z).2)
        · exact .inr (.inr ⟨z, un_of z'⟩)
      · exact (upd_none.mp (st.dom a (upd_none.mp ha).2)).2
      · cases a with
        | val x => exact it
        | slot j => exact it
        | new c' =>
          obtain ⟨pp, rfl, i1, i2, i3, i4, i5⟩ := it
          obtain ⟨i0, i1⟩ := upd_none.mp i1
          refine ⟨pp, rfl, i1, ?_, i3, i4, i5.mono (H' := upd H' d (.dK kvs)) (fun _ _ e => e) (fun _ _ => rfl) (Nat.le_refl _) (fun o e => by rw [upd_ne i0]; exact e)⟩
          show (if pp = d then some (Lab.slot i) else if S'.lab pp = some (.slot i) then none else S'.lab pp) = none
          rw [if_neg i0, i2]; rfl
  · exact False.elim p
end
end Y
namespace Y
open PySem L2 Z
abbrev pyP (p : Int × Int) : PyData := .tuple [.int p.1, .int p.2]
def ltP (x y : Int × Int) : Bool := decide (x.1 < y.1 ∨ (x.1 = y.1 ∧ x.2 < y.2))
def minP (p : Int × Int) (ps : List (Int × Int)) : Int × Int := ps.foldl (fun a y => if ltP y a = true then y else a) p
theorem dlt (x y : Int × Int) : PySem.W.dataLt (pyP x) (pyP y) = ltP x y := by
  obtain ⟨a, b⟩ := x
  obtain ⟨c, d⟩ := y
  show (decide ((1 : Int) < 1) || (!decide ((1 : Int) < 1) && (decide (a < c) || (!decide (c < a) && (decide ((1 : Int) < 1) || (!decide ((1 : Int) < 1) && (decide (b < d) || (!decide (d < b) && (decide ((0 : Int) < 0) || (!decide ((0 : Int) < 0) && false)))))))))) = decide (a < c ∨ (a = c ∧ b < d))
  by_cases h1 : a < c
  · simp [h1]
  · by_cases h2 : c < a
    · have : ¬ a = c := by omega
      simp [h1, h2, this]
    · have : a = c := by omega
      subst this
      by_cases h3 : b < d
      · simp [h3]
      · simp [h3]
section
variable {K : PySem.W.Frag} {ct : Ct} {H0 : Hp} {W : WX}
def tP (p : Int × Int) : D := .tup [.int p.1, .int p.2]
variable {s : Stt} {X : Exn → Stt → Prop} {QA : AI → Stt → Prop}
def rDictY (K : PySem.W.Frag) : List V → Hp → VK → Prop := fun xs H Q => ∃ (a : Addr) (ps : List Addr) (kvs : List (Key × V)), xs = [.ref a] ∧ SqL K H a (ps.map V.ref) ∧ Paired (fun p kv => SqT K H p [kV kv.1, kv.2]) ps kvs ∧ ∀ p, H p = none → Q (.ref p) (upd H p (.dK (mergeK [] kvs)))
theorem call_dictY {X : Cx} {K : PySem.W.Frag} (hK : X.K = K) (hc : X.calm = true) : CallR X (.type "dict") (rDictY K) := by subst hK; exact call_dictP hc
def kPair : D → Option (Key × D)
  | .tup [.int i, x] => some (.inl i, x)
  | .tup [.str i, x] => some (.inr i, x)
  | _ => none
def kPairs : List D → Option (List (Key × D))
  | [] => some []
  | d :: l => (kPair d).bind fun p => (kPairs l).map (p :: ·)
def mgD (l : List (Key × D)) : List (Key × D) := l.foldl (fun a p => pu a p.1 p.2) []
def fDict (s : Stt) (as : List AI) : Ro AI := match as with
  | [a] => match (viewL s a).bind kPairs with
    | some l => .ok (.new (.dK (mgD l))) s
    | none => .no
  | _ => .no
theorem kPairs_ok {G : Hp} {α : Nat → Addr} {n : Nat} {H : Hp} (hs : ∀ a vs, G a = some (.tup vs) → H a = some (.tup vs)) : ∀ {ds : List D} {vs : List V} {l : List (Key × D)}, RpL K G α n vs ds → kPairs ds = some l → ∃ ps kvs, vs = ps.map V.ref ∧ Paired (fun p (kv : Key × V) => SqT K H p [kV kv.1, kv.2]) ps kvs ∧ RpK K G α n kvs l
  | [], _, _, .nil, e => by cases e; exact ⟨[], [], rfl, .nil, .nil⟩
  | d :: ds, _, l, .cons h r, e => by
    obtain ⟨kd, e1, e2⟩ := Option.bind_eq_some_iff.mp (show ((kPair d).bind fun p => (kPairs ds).map (p :: ·)) = some l from e)
    obtain ⟨l', e3, rfl⟩ := Option.map_eq_some_iff.mp e2
    obtain ⟨ps, kvs, rfl, h2, h3⟩ := kPairs_ok hs r e3
    unfold kPair at e1
    split at e1
    · rename_i i x
      cases e1
      cases h with
      | tup g1 g2 =>
        cases g2 with
        | cons g3 g4 => cases g4 with
          | cons g5 g6 =>
            cases g6
            cases rp_int g3
            exact ⟨_ :: ps, (.inl i, _) :: kvs, rfl, .cons (.of (hs _ _ g1)) h2, .cons g5 h3⟩
    · rename_i i x
      cases e1
      cases h with
      | tup g1 g2 =>
        cases g2 with
        | cons g3 g4 => cases g4 with
          | cons g5 g6 =>
            cases g6
            cases rp_str g3
            exact ⟨_ :: ps, (.inr i, _) :: kvs, rfl, .cons (.of (hs _ _ g1)) h2, .cons g5 h3⟩
    · cases e1
theorem mg_ok {G : Hp} {α : Nat → Addr} {n : Nat} : ∀ {kvs : List (Key × V)} {l : List (Key × D)} {acc : List (Key × V)} {a : List (Key × D)}, RpK K G α n kvs l → RpK K G α n acc a → RpK K G α n (mergeK acc kvs) (l.foldl (fun a p => pu a p.1 p.2) a)
  | _, _, _, _, .nil, h => h
  | _, _, acc, a, .cons (k := k) (v := v) (d := d) (kvs := kvs) (l := l) x r, h => by
    show RpK K G α n (mergeK (putK acc k v) kvs) (l.foldl (fun a p => pu a p.1 p.2) (pu a k d))
    exact mg_ok r (h.put x)
theorem jb_dict : JB K ct H0 (rDictY K) fDict := fun W S s σ H Hs vs as Q rel ia p => by
  unfold fDict at p
  split at p
  · rename_i a
    obtain ⟨v, rfl, i⟩ := as1 ia
    split at p
    · rename_i l e
      obtain ⟨l0, e1, e2⟩ := Option.bind_eq_some_iff.mp e
      obtain ⟨q, us, rfl, k1, k2⟩ := viewL_ok rel i e1
      obtain ⟨ps, kvs, rfl, h2, h3⟩ := kPairs_ok (H := H) (fun a vs h => uP' (rel.sub _ _ h)) k2 e2
      refine ⟨q, ps, kvs, rfl, k1, h2, fun r hr => ?_⟩
      have h4 := mg_ok h3 (.nil (κ := Key))
      exact p.newC rel hr rfl ⟨_, upd_same, h4.keys, h4.vals⟩
    · exact False.elim p
  · exact False.elim p
theorem w_dict {a : AI} {l : List D} {kl : List (Key × D)} (e : viewL s a = some l) (e2 : kPairs l = some kl) (h : QA (.new (.dK (mgD kl))) s) : Wo QA X (fDict s [a]) := by
  unfold fDict; simp only []; rw [e, Option.bind_some, e2]; exact h
theorem w_dnew (h : QA (.new (.dK [])) s) : Wo QA X (mDNew s) := h
theorem w_lcD1 {kd : KD} {i : Nat} {ws : List Nat} {g : Tg} {c : Mo Bool} {e : Mo AI} {l : List (Key × D)} (en : entAt s i = some (.fz (.dK l))) (h : ∃ l2 s2, lcN ws g c (mV e) none (dIt kd l) [] (wipeS ws s) = .ok l2 s2 ∧ QA (.new (.lst l2)) ⟨Y.rest s.env s2.env ws, s2.M⟩) : Wo QA X (mLcD kd i ws g c e s) := by
  unfold mLcD; rw [en]
  exact w_lc (show Wo _ X (Ro.ok (⟨dIt kd l, none⟩ : Im) s) from h)
theorem w_lcD2 {kd : KD} {i : Nat} {ws : List Nat} {g : Tg} {c : Mo Bool} {e : Mo AI} {l : List (Key × D)} (en : entAt s i = some (.ow (.dK l))) (h : ∃ l2 s2, lcN ws g c (mV e) none (dIt kd l) [] (wipeS ws ⟨s.env.set i none, s.M⟩) = .ok l2 s2 ∧ QA (.new (.lst l2)) ⟨(Y.rest (s.env.set i none) s2.env ws).set i (some (.ow (.dK l))), s2.M⟩) : Wo QA X (mLcD kd i ws g c e s) := by
  unfold mLcD; rw [en]
  refine w_bind (w_lc (QA := fun a s1 => Wo QA X (.ok a ⟨s1.env.set i (some (.ow (.dK l))), s1.M⟩)) (show Wo _ X (Ro.ok (⟨dIt kd l, none⟩ : Im) _) from h))
theorem w_pop {m1 m2 : Mo AI} (h : Wo (fun a s1 => (∃ l, viewD s1 a = some l) ∧ Wo (fun i s2 => ∃ l k d, getC s2 a = some (.dK l) ∧ keyOf i = some k ∧ vl l k = some d ∧ QA (.val d) (setC s2 a (.dK (dr l k)))) X (mV m2 s1)) X (m1 s)) : Wo QA X (mPop m1 m2 s) := w_bind (w_mono h fun a s1 ⟨⟨l, e⟩, h⟩ => by
  show Wo QA X (match viewD s1 a with | some _ => _ | none => _)
  rw [e]
  exact w_bind (w_mono h fun i s2 ⟨l, k, d, e1, e2, e3, h⟩ => by
    show Wo QA X (fPop s2 a i)
    unfold fPop
    rw [e1]; simp only []; rw [e2, Option.bind_some, e3]; exact h))
theorem so_setK {N : Stt → Prop} {a : AI} {i d : D} {l : List (Key × D)} {k : Key} (e : getC s a = some (.dK l)) (e2 : keyOf i = some k) (hz : l.length < sizeLine) (h : N (setC s a (.dK (pu l k d)))) : So N (setIt a i d s) := by
  unfold setIt; rw [e]; simp only []; rw [e2, Option.bind_some, if_pos hz]; exact h
theorem w_inD {b : AI} {i : Int} {l : List (Key × D)} (e : viewD s b = some l) (h : QA (.val (.bl (vl l (.inl i)).isSome)) s) : Wo QA X (fIn s (.val (.int i)) b) := by
  unfold fIn
  have : inOf s (.val (.int i)) b = some (vl l (.inl i)).isSome := by
    unfold inOf
    split
    · rename_i h1 h2; cases h2
    · rw [e]
  rw [this]; exact h
/-- a comprehension with a test -/
theorem w_lcFil {ws : List Nat} {g : Tg} {c : Mo Bool} {e : Mo D} {xs : List D} {P : List D → Stt → Prop} (p : D → Bool) (f : D → D) (hz : xs.length ≤ sizeLine) (h : ∀ x ∈ xs, So (fun s1 => Wo (fun b s2 => b = p x ∧ if b = true then Wo (fun d s3 => d = f x ∧ wipeS ws s3 = s) Xf (e s2) else wipeS ws s2 = s) Xf (c s1)) (g x s)) (k : P ((xs.filter p).map f) s) : ∃ l s2, lcN ws g c e none xs [] s = .ok l s2 ∧ P l s2 := by
  refine ⟨(xs.filter p).map f, s, ?_, k⟩
  have gen : ∀ (ys acc : List D), acc.length + ys.length ≤ sizeLine → (∀ y ∈ ys, y ∈ xs) → lcN ws g c e none ys acc s = .ok (acc ++ (ys.filter p).map f) s := by
    intro ys
    induction ys with
    | nil => intro acc _ _; unfold lcN; rw [if_pos chk_none]; simp
    | cons y ys ih =>
      intro acc hl hy
      have hh := h y (hy y (List.mem_cons_self ..))
      unfold lcN
      rw [if_pos chk_none]
      cases q : g y s with
      | none => rw [q] at hh; exact False.elim hh
      | some s1 =>
        rw [q] at hh
        simp only []
        have hh : Wo _ Xf (c s1) := hh
        cases q2 : c s1 with
        | no => rw [q2] at hh; exact False.elim hh
        | er _ _ => rw [q2] at hh; exact False.elim hh
        | ok b s2 =>
          rw [q2] at hh
          obtain ⟨hb, hh⟩ := hh
          simp only []
          rw [List.length_cons] at hl
          by_cases hbt : b = true
          · rw [if_pos hbt] at hh ⊢
            cases q3 : e s2 with
            | no => rw [q3] at hh; exact False.elim hh
            | er _ _ => rw [q3] at hh; exact False.elim hh
            | ok d s3 =>
              rw [q3] at hh
              obtain ⟨rfl, hw⟩ := hh
              simp only []
              rw [if_pos (by omega), hw, ih _ (by rw [List.length_append, List.length_singleton]; omega) (fun z hz => hy z (List.mem_cons_of_mem _ hz))]
              rw [List.filter_cons, if_pos (by rw [← hb]; exact hbt), List.map_cons, List.append_assoc]; rfl
          · rw [if_neg hbt] at hh ⊢
            rw [hh, ih _ (by omega) (fun z hz => hy z (List.mem_cons_of_mem _ hz))]
            rw [List.filter_cons, if_neg (by rw [← hb]; exact hbt)]
  simpa using gen xs [] (by simpa using hz) (fun _ h => h)
end
section
variable {K : PySem.W.Frag} {ct : Ct} {H0 : Hp} {W : WX}
def mPar (i j : Nat) (m : Mo (List D)) : Ms := fun s => (m s).toS fun ds s1 => match ds with
  | [x, y] => .nx ⟨(s1.env.set i (some (.fz x))).set j (some (.fz y)), s1.M⟩
  | _ => .no
variable {s : Stt} {N : Stt → Prop} {O : Rs → Prop}
theorem w_par {i j : Nat} {m : Mo (List D)} (h : Wo (fun ds s1 => ∃ x y, ds = [x, y] ∧ N ⟨(s1.env.set i (some (.fz x))).set j (some (.fz y)), s1.M⟩) (fun x s => O (.er x s)) (m s)) : Ws N O (mPar i j m s) := w_toS (w_mono h fun ds s1 ⟨x, y, e, h⟩ => by subst e; exact h)
end
end Y
namespace Y
open PySem L2 Z
def putD (f : Str) (d : D) : List (Str × D) → List (Str × D)
  | [] => [(f, d)]
  | (g, x) :: r => if g = f then (g, d) :: r else (g, x) :: putD f d r
section
variable {K : PySem.W.Frag} {ct : Ct} {H0 : Hp} {W : WX} {S : Sh} {s : Stt} {σ : St} {H : Hp}
theorem put_ok {G : Hp} {α : Nat → Addr} {n : Nat} {f : Str} {v : V} {d : D} (h : Rp K G α n v d) : ∀ {fvs : List (Str × V)} {fs : List (Str × D)}, fvs.map Prod.fst = fs.map Prod.fst → RpL K G α n (fvs.map Prod.snd) (fs.map Prod.snd) → (putF f v fvs).map Prod.fst = (putD f d fs).map Prod.fst ∧ RpL K G α n ((putF f v fvs).map Prod.snd) ((putD f d fs).map Prod.snd)
  | [], [], _, _ => ⟨rfl, .cons h .nil⟩
  | [], _ :: _, e, _ => by simp at e
  | _ :: _, [], e, _ => by simp at e
  | (g, x) :: fvs, (g', y) :: fs, e, r => by
    rw [List.map_cons, List.map_cons] at e r
    obtain ⟨e1, e2⟩ := List.cons.inj e
    have e1 : g = g' := e1
    subst e1
    cases r with
    | cons r1 r2 =>
      unfold putF putD
      by_cases q : g = f
      · rw [if_pos q, if_pos q]
        exact ⟨by rw [List.map_cons, List.map_cons, e2], .cons h r2⟩
      · rw [if_neg q, if_neg q]
        obtain ⟨k1, k2⟩ := put_ok h e2 r2
        exact ⟨by rw [List.map_cons, List.map_cons, k1], .cons r1 k2⟩
theorem lookup_no {f : Str} : ∀ {fvs : List (Str × V)} {fs : List (Str × D)}, fvs.map Prod.fst = fs.map Prod.fst → fs.lookup f = none → fvs.lookup f = none
  | [], [], _, _ => rfl
  | [], _ :: _, e, _ => by simp at e
  | _ :: _, [], e, _ => by simp at e
  | (g, x) :: fvs, (g', y) :: fs, e, h => by
    rw [List.map_cons, List.map_cons] at e
    obtain ⟨e1, e2⟩ := List.cons.inj e
    have e1 : g = g' := e1
    subst e1
    rw [List.lookup_cons] at h ⊢
    cases q : (f == g) with
    | true => rw [q] at h; cases h
    | false => rw [q] at h; exact lookup_no e2 h
/-- to a value; a new thing is tracked -/
def toK : AI → Mo D := fun a s => match a with
  | .new c => .ok (.cid s.M.length) ⟨s.env, s.M ++ [c]⟩
  | a => toV a s
def mK (m : Mo AI) : Mo D := fun s => (m s).bind toK
theorem ek_of {t : TE} {m : Mo AI} (h : Ei K ct H0 W t m) : Ev K ct H0 W t (mK m) := fun S s σ H Q rel p => by
  unfold mK at p
  cases q : m s with
  | no => rw [q] at p; exact h S s σ H Q rel (by rw [q]; exact p)
  | er x s' => rw [q] at p; exact h S s σ H Q rel (by rw [q]; exact p)
  | ok a s' =>
    rw [q] at p
    cases a with
    | val d => exact ev_of h S s σ H Q rel (by unfold mV; rw [q]; exact p)
    | slot i => exact ev_of h S s σ H Q rel (by unfold mV; rw [q]; exact p)
    | new c =>
      refine h S s σ H Q rel (by
        rw [q]
        intro S' v H' st rel' it
        obtain ⟨pp, rfl, h1, h2, h3, h4, h5⟩ := it
        have rt := rel'.track h2 h3 h5
        have hlen : (s'.M ++ [c]).length = s'.M.length + 1 := by simp
        have p : ∀ S'' b H'', Stp S s.M.length H S'' (s'.M ++ [c]).length H'' → Rel K ct H0 S'' ⟨s'.env, s'.M ++ [c]⟩ σ H'' → RV K H S'' ⟨s'.env, s'.M ++ [c]⟩ σ H'' b (.cid s'.M.length) → Q b H'' := p
        refine p (S'.tr s'.M.length pp) _ H' (by rw [hlen]; exact st.track h1) rt ?_
        show Rp K _ _ (s'.M ++ [c]).length _ _
        rw [hlen]; exact tr_cid)
theorem okc1 {P : Nat → Prop} {i : Nat} (h : P i) : ∀ c, (c == i) = true → P c := fun c e => by rw [beq_iff_eq.mp e]; exact h
def objAt (s : Stt) (a : AI) : Option (Nat × Nat × List (Str × D)) := match a with
  | .val (.cid k) => match s.M[k]? with
    | some (.obj c fs) => some (k, c, fs)
    | _ => none
  | _ => none
theorem objAt_ok {Hs : Hp} {v : V} {a : AI} {k c : Nat} {fs : List (Str × D)} (rel : Rel K ct H0 S s σ H) (i : ItOk K ct Hs S s σ H v a) (e : objAt s a = some (k, c, fs)) : a = .val (.cid k) ∧ s.M[k]? = some (.obj c fs) ∧ v = .ref (S.α k) ∧ ∃ dx fvs, H (S.α k) = some (.ins (ct c) dx fvs) ∧ fvs.map Prod.fst = fs.map Prod.fst ∧ RpL K S.G S.α s.M.length (fvs.map Prod.snd) (fs.map Prod.snd) := by
  unfold objAt at e
  split at e
  · rename_i k'
    split at e
    · rename_i c' fs' em
      cases e
      have i : Rp K S.G S.α s.M.length v (.cid k) := i
      cases i
      exact ⟨rfl, em, rfl, (rel.ids k _ em).2⟩
    · cases e
  · cases e
def mFld (ok : Nat → Bool) (f : Str) (m : Mo AI) : Mo AI := fun s => (m s).bind fun a s1 => match objAt s1 a with
  | some (_, c, fs) => if ok c = true then (match fs.lookup f with | some d => .ok (.val d) s1 | none => .no) else .no
  | none => .no
theorem ei_fld {ok : Nat → Bool} {f : Str} {ta : TE} {m : Mo AI} (hc : ∀ c, ok c = true → Cls K (ct c) ∧ NoAttr K (ct c) f) (h : Ei K ct H0 W ta m) : Ei K ct H0 W (tFld K ta f) (mFld ok f m) := fun S s σ H Q rel p =>
  h S s σ H _ rel (Pst.bind bI p fun S1 s1 H1 x a st1 rel1 i1 p1 => by
    split at p1
    · rename_i k c fs e
      split at p1
      · rename_i hk
        split at p1
        · rename_i d el
          obtain ⟨rfl, em, rfl, dx, fvs, h1, h2, h3⟩ := objAt_ok rel1 i1 e
          obtain ⟨v, l1, l2⟩ := lookup_rp h2 h3 el
          exact ⟨_, _, dx, fvs, v, rfl, h1, (hc c hk).1, (hc c hk).2, l1, p1 S1 v H1 .refl rel1 l2⟩
        · exact False.elim p1
      · exact False.elim p1
    · exact False.elim p1)
def mFldS (ok : Nat → Bool) (f : Str) (mo mv : Mo AI) : Ms := fun s => (mK mv s).toS fun d s1 => (mo s1).toS fun a s2 => match objAt s2 a with
  | some (k, c, fs) => if ok c = true ∧ fs.length < 1000 then .nx ⟨s2.env, s2.M.set k (.obj c (putD f d fs))⟩ else .no
  | none => .no
theorem sv_fld {ok : Nat → Bool} {f : Str} {ta tv : TE} {mo mv : Mo AI} (hc : ∀ c, ok c = true → Cls K (ct c) ∧ NoAttr K (ct c) f) (ho : Ei K ct H0 W ta mo) (hv : Ei K ct H0 W tv mv) : Sv K ct H0 W (sFld K ta tv f) (mFldS ok f mo mv) := fun S s σ H Dn rel p =>
  ek_of hv S s σ H _ rel (PstS.bind p fun S1 s1 H1 y d st1 rel1 r1 p1 => ho S1 s1 σ H1 _ rel1 (PstS.bind (PstS.from p1 st1) fun S2 s2 H2 x a st2 rel2 i2 p2 => by
    split at p2
    · rename_i k c fs e
      split at p2
      · rename_i hk
        obtain ⟨rfl, em, rfl, dx, fvs, h1, h2, h3⟩ := objAt_ok rel2 i2 e
        have r2 : Rp K S2.G S2.α s2.M.length y d := Rp.step st2 r1
        obtain ⟨k1, k2⟩ := put_ok (f := f) r2 h2 h3
        have hlen : fvs.length = fs.length := by have := congrArg List.length h2; simpa using this
        refine ⟨_, _, dx, fvs, rfl, h1, (hc c hk.1).1, (hc c hk.1).2, by rw [hlen]; exact hk.2, ?_⟩
        obtain ⟨pp, ep, _, g⟩ := mut_ok (a := .val (.cid k)) (c := .obj c fs) rel2 i2 em
        have ep : S2.α k = pp := by injection ep
        subst ep
        obtain ⟨g1, g2⟩ := g (.ins (ct c) dx (putF f y fvs)) (.obj c (putD f d fs)) (fun z => z) ⟨dx, _, upd_same, k1, k2⟩
        exact p2 S2 σ _ (st2.trans g2) g1
      · exact False.elim p2
    · exact False.elim p2))
/-- o.f += e -/
def mFldA (ok : Nat → Bool) (f : Str) (g : Int → Int → Int) (mo mv : Mo AI) : Ms := fun s => (mo s).toS fun a s1 => match objAt s1 a with
  | some (k, c, fs) => if ok c = true then (match fs.lookup f with
    | some (.int i) => (mv s1).toS fun b s2 => match b with
      | .val (.int j) => match s2.M[k]? with
        | some (.obj c' fs') => if c' = c ∧ fs'.length < 1000 then .nx ⟨s2.env, s2.M.set k (.obj c (putD f (.int (g i j)) fs'))⟩ else .no
        | _ => .no
      | _ => .no
    | _ => .no) else .no
  | none => .no
theorem sv_fldA {ok : Nat → Bool} {f : Str} {g : Int → Int → Int} {ta tv : TE} {mo mv : Mo AI} (hc : ∀ c, ok c = true → Cls K (ct c) ∧ NoAttr K (ct c) f) (ho : Ei K ct H0 W ta mo) (hv : Ei K ct H0 W tv mv) : Sv K ct H0 W (sFldAug K ta tv (rI0 fun i j => .int (g i j)) f) (mFldA ok f g mo mv) := fun S s σ H Dn rel p =>
  ho S s σ H _ rel (PstS.bind p fun S1 s1 H1 x a st1 rel1 i1 p1 => by
    split at p1
    · rename_i k c fs e
      split at p1
      · rename_i hk
        split at p1
        · rename_i i el
          obtain ⟨rfl, em, rfl, dx, fvs, h1, h2, h3⟩ := objAt_ok rel1 i1 e
          obtain ⟨v, l1, l2⟩ := lookup_rp h2 h3 el
          cases rp_int l2
          refine ⟨_, _, dx, fvs, _, rfl, h1, (hc c hk).1, (hc c hk).2, l1, hv S1 s1 σ H1 _ rel1 (PstS.bind (PstS.from p1 st1) fun S2 s2 H2 y b st2 rel2 i2 p2 => ?_)⟩
          split at p2
          · rename_i j
            cases rp_int i2
            split at p2
            · rename_i c' fs' em'
              split at p2
              · rename_i hk'
                obtain ⟨rfl, hz⟩ := hk'
                have ea : S2.α k = S1.α k := st2.al k (List.getElem?_eq_some_iff.mp em).1
                have i2' : ItOk K ct H2 S2 s2 σ H2 (.ref (S2.α k)) (.val (.cid k)) := Rp.cid (List.getElem?_eq_some_iff.mp em').1
                obtain ⟨dx', fvs', h1', h2', h3'⟩ := (rel2.ids k _ em').2
                have hlen : fvs'.length = fs'.length := by have := congrArg List.length h2'; simpa using this
                obtain ⟨k1, k2⟩ := put_ok (f := f) (Rp.int (K := K) (G := S2.G) (α := S2.α) (n := s2.M.length) (g i j)) h2' h3'
                refine ⟨i, j, rfl, rfl, dx', fvs', by rw [← ea]; exact h1', by rw [hlen]; exact hz, ?_⟩
                rw [← ea]
                obtain ⟨pp, ep, _, gg⟩ := mut_ok (a := .val (.cid k)) (c := .obj c' fs') rel2 i2' em'
                have ep : S2.α k = pp := by injection ep
                subst ep
                obtain ⟨g1, g2⟩ := gg (.ins (ct c') dx' (putF f (.int (g i j)) fvs')) (.obj c' (putD f (.int (g i j)) fs')) (fun z => z) ⟨dx', _, upd_same, k1, k2⟩
                exact p2 S2 σ _ (st2.trans g2) g1
              · exact False.elim p2
            · exact False.elim p2
          · exact False.elim p2
        · exact False.elim p1
      · exact False.elim p1
    · exact False.elim p1)
def mMethN (c : Nat) (nm : Str) (f : Mf) (mo : Mo AI) (ma : Mo (List D)) : Mo AI := fun s => (mo s).bind fun a s1 => match objAt s1 a with
  | some (k, c', fs) => if c' = c ∧ fs.lookup nm = none then ((ma s1).bind fun ds s2 => match f (.cid k :: ds) s2.M with
    | .ok a M' => .ok a ⟨s2.env, M'⟩
    | _ => .no) else .no
  | none => .no
def mMethS (c : Nat) (nm : Str) (f : Mf) (mo : Mo AI) (ma : Mo (List D)) : Mo AI := fun s => (mo s).bind fun a s1 => match objAt s1 a with
  | some (k, c', fs) => if c' = c ∧ fs.lookup nm = none then ((ma s1).bind fun ds s2 => match f (.cid k :: ds) s2.M with
    | .ok a M' => .ok a ⟨s2.env, M'⟩
    | .er x M' => .er x ⟨s2.env, M'⟩
    | .no => .no) else .no
  | none => .no
theorem self_rp {S1 S2 : Sh} {s1 s2 : Stt} {H1 H2 : Hp} {k : Nat} {c : Cn} (em : s1.M[k]? = some c) (st : Stp S1 s1.M.length H1 S2 s2.M.length H2) : Rp K S2.G S2.α s2.M.length (.ref (S1.α k)) (.cid k) := by
  have hk := (List.getElem?_eq_some_iff.mp em).1
  have e := st.al k hk
  rw [← e]
  exact .cid (Nat.lt_of_lt_of_le hk st.le)
theorem ei_methN {c : Nat} {nm : Str} {f : Mf} {E : XK} {ta : TE} {t : TA} {mo : Mo AI} {ma : Mo (List D)} (ho : Ei K ct H0 W ta mo) (ha : EvL K ct H0 W t ma) : Ei K ct H0 W (tMeth (ct c) nm (spM K ct f) [] E ta t) (mMethN c nm f mo ma) := fun S s σ H Q rel p =>
  ho S s σ H _ rel (Pst.bind bI p fun S1 s1 H1 x a st1 rel1 i1 p1 => by
    split at p1
    · rename_i k c' fs e
      split at p1
      · rename_i hk
        obtain ⟨rfl, hno⟩ := hk
        obtain ⟨rfl, em, rfl, dx, fvs, h1, h2, h3⟩ := objAt_ok rel1 i1 e
        refine ⟨_, dx, fvs, rfl, h1, lookup_no h2 hno, ha S1 s1 σ H1 _ rel1 (Pst.bind bI p1 fun S2 s2 H2 vs ds st2 rel2 i2 p2 => ?_)⟩
        refine ⟨S2.hide, s2.M, .cid k :: ds, rel2.hide, (.cons (show Rp K S2.G S2.α s2.M.length _ _ from self_rp em st2) (by rw [List.append_nil]; exact i2)), ?_⟩
        generalize hf : f (.cid k :: ds) s2.M = r at p2
        cases r with
        | no => exact False.elim p2
        | er x M' => exact False.elim p2
        | ok a M' => exact fpst_of rel2 (fun x M' e => by cases e) (fun a' M'' e S' v H' st rl it => by cases e; exact p2 S' v H' st rl it) (fun e => by cases e)
      · exact False.elim p1
    · exact False.elim p1)
def mMakeN (c : Nat) (f : Mf) (dds : List D) (ma : Mo (List D)) : Mo AI := fun s => (ma s).bind fun ds s1 => match f (.cid s1.M.length :: (ds ++ dds)) (s1.M ++ [.obj c []]) with
  | .ok (.val .non) M' => .ok (.val (.cid s1.M.length)) ⟨s1.env, M'⟩
  | _ => .no
def mMakeS (c : Nat) (f : Mf) (dds : List D) (ma : Mo (List D)) : Mo AI := fun s => (ma s).bind fun ds s1 => match f (.cid s1.M.length :: (ds ++ dds)) (s1.M ++ [.obj c []]) with
  | .ok (.val .non) M' => .ok (.val (.cid s1.M.length)) ⟨s1.env, M'⟩
  | .er x M' => .er x ⟨s1.env, M'⟩
  | _ => .no
/-- what stands for data whatever the heap -/
def CRL (K : PySem.W.Frag) (vs : List V) (ds : List D) : Prop := ∀ G α n, RpL K G α n vs ds
theorem crl_nil : CRL K [] [] := fun _ _ _ => .nil
theorem make_ok {c : Nat} {f : Mf} {E : XK} {Q : VK} {vs dvs : List V} {ds dds : List D} {x dx : Addr} (rel : Rel K ct H0 S s σ H) (hv : RpL K S.G S.α s.M.length vs ds) (hd : CRL K dvs dds) (hx : H x = none) (hdx : H dx = none) (hne : dx ≠ x)
    (hE : ∀ y M', f (.cid s.M.length :: (ds ++ dds)) (s.M ++ [.obj c []]) = .er y M' → ∀ S' H' dd, Stp S s.M.length H S' M'.length H' → Rel K ct H0 S' ⟨s.env, M'⟩ σ H' → XOk K S' M'.length H' y dd → E (.ref (ct y.cls)) dd H')
    (hQ : ∀ M', f (.cid s.M.length :: (ds ++ dds)) (s.M ++ [.obj c []]) = .ok (.val .non) M' → ∀ S' H', Stp S s.M.length H S' M'.length H' → Rel K ct H0 S' ⟨s.env, M'⟩ σ H' → Rp K S'.G S'.α M'.length (.ref x) (.cid s.M.length) → Q (.ref x) H')
    (hn : (∃ M', f (.cid s.M.length :: (ds ++ dds)) (s.M ++ [.obj c []]) = .ok (.val .non) M') ∨ ∃ y M', f (.cid s.M.length :: (ds ++ dds)) (s.M ++ [.obj c []]) = .er y M') :
    spM K ct f (.ref x :: (vs ++ dvs)) (upd (upd H dx (.own x)) x (.ins (ct c) dx [])) (fun v H2 => v = .non ∧ Q (.ref x) H2) E := by
  have hx' : (upd H dx (.own x)) x = none := by rw [upd_ne (Ne.symm hne)]; exact hx
  have relA : Rel K ct H0 S s σ (upd (upd H dx (.own x)) x (.ins (ct c) dx [])) := (rel.new (o := .own x) hdx).new hx'
  have stA : Stp S s.M.length H S s.M.length (upd (upd H dx (.own x)) x (.ins (ct c) dx [])) := (Stp.new rel hdx).trans (Stp.new (rel.new (o := .own x) hdx) hx')
  have hl : S.lab x = none := rel.labN hx
  have hg : S.G x = none := rel.gN hx
  have relT := relA.track (p := x) (c := .obj c []) hl hg ⟨dx, [], upd_same, rfl, .nil⟩
  have hlen : (s.M ++ [Cn.obj c []]).length = s.M.length + 1 := by simp
  have stT : Stp S s.M.length H (S.tr s.M.length x) (s.M.length + 1) (upd (upd H dx (.own x)) x (.ins (ct c) dx [])) := stA.track hx
  have hv' : RpL K (S.tr s.M.length x).G (S.tr s.M.length x).α (s.M.length + 1) vs ds := hv.mono stT.g stT.al stT.le
  refine ⟨(S.tr s.M.length x).hide, s.M ++ [.obj c []], .cid s.M.length :: (ds ++ dds), relT.hide, ?_, ?_⟩
  · rw [hlen]
    exact .cons (show Rp K (S.tr s.M.length x).G (S.tr s.M.length x).α (s.M.length + 1) _ _ from tr_cid) (RpL.append (show RpL K (S.tr s.M.length x).G (S.tr s.M.length x).α (s.M.length + 1) _ _ from hv') (hd _ _ _))
  · have stT' : Stp S s.M.length H (S.tr s.M.length x) (s.M ++ [Cn.obj c []]).length (upd (upd H dx (.own x)) x (.ins (ct c) dx [])) := by rw [hlen]; exact stT
    refine fpst_of relT (fun y M' e S' H' dd st rl xo => hE y M' e S' H' dd (stT'.trans st) rl xo) (fun a M' e S' v H' st rl it => ?_) (fun e => ?_)
    · rcases hn with ⟨M2, e2⟩ | ⟨y, M2, e2⟩
      · rw [e2] at e
        injection e with ea em
        subst ea em
        have it : Rp K S'.G S'.α M2.length v .non := it
        cases it
        refine ⟨rfl, hQ M2 e2 S' H' (stT'.trans st) rl ?_⟩
        have hlt : s.M.length < (s.M ++ [Cn.obj c []]).length := by rw [hlen]; omega
        have ea := st.al s.M.length hlt
        have eb : (S.tr s.M.length x).α s.M.length = x := if_pos rfl
        rw [eb] at ea
        have r : Rp K S'.G S'.α M2.length (.ref (S'.α s.M.length)) (.cid s.M.length) := .cid (Nat.lt_of_lt_of_le hlt st.le)
        rw [ea] at r; exact r
      · rw [e2] at e; cases e
    · rcases hn with ⟨M2, e2⟩ | ⟨y, M2, e2⟩
      · rw [e2] at e; cases e
      · rw [e2] at e; cases e
theorem ei_makeN {c : Nat} {f : Mf} {E : XK} {t : TA} {ma : Mo (List D)} {dvs : List V} {dds : List D} (hd : CRL K dvs dds) (ha : EvL K ct H0 W t ma) : Ei K ct H0 W (tMake (ct c) (spM K ct f) dvs E t) (mMakeN c f dds ma) := fun S s σ H Q rel p =>
  ha S s σ H _ rel (Pst.bind bI p fun S1 s1 H1 vs ds st1 rel1 i1 p1 => by
    intro x dx hx hdx hne
    split at p1
    · rename_i M' e
      exact make_ok rel1 i1 hd hx hdx hne (fun y M'' e' => by rw [e] at e'; cases e') (fun M'' e' S' H' st rl r => by rw [e] at e'; cases e'; exact p1 S' _ H' st rl r) (.inl ⟨M', e⟩)
    · exact False.elim p1)
end
section
variable {s : Stt} {X : Exn → Stt → Prop} {QA : AI → Stt → Prop} {N : Stt → Prop} {O : Rs → Prop} {QD : D → Stt → Prop} {m mo mv : Mo AI} {ma : Mo (List D)}
theorem w_K (h : Wo (fun a s1 => Wo QD X (toK a s1)) X (m s)) : Wo QD X (mK m s) := w_bind h
theorem w_toKN {c : Cn} (h : QD (.cid s.M.length) ⟨s.env, s.M ++ [c]⟩) : Wo QD X (toK (.new c) s) := h
theorem w_toKV {d : D} (h : QD d s) : Wo QD X (toK (.val d) s) := h
theorem w_toKS {i : Nat} (h : Wo QD X (toV (.slot i) s)) : Wo QD X (toK (.slot i) s) := h
theorem w_fld {ok : Nat → Bool} {f : Str} (h : Wo (fun a s1 => ∃ k c fs d, objAt s1 a = some (k, c, fs) ∧ ok c = true ∧ fs.lookup f = some d ∧ QA (.val d) s1) X (m s)) : Wo QA X (mFld ok f m s) := w_bind (w_mono h fun a s1 ⟨k, c, fs, d, e, h1, h2, h⟩ => by
  show Wo QA X (match objAt s1 a with | some (_, c, fs) => _ | none => _)
  rw [e]; simp only []; rw [if_pos h1, h2]; exact h)
theorem w_fldS {ok : Nat → Bool} {f : Str} (h : Wo (fun d s1 => Wo (fun a s2 => ∃ k c fs, objAt s2 a = some (k, c, fs) ∧ (ok c = true ∧ fs.length < 1000) ∧ N ⟨s2.env, s2.M.set k (.obj c (putD f d fs))⟩) (fun x s => O (.er x s)) (mo s1)) (fun x s => O (.er x s)) (mK mv s)) : Ws N O (mFldS ok f mo mv s) :=
  w_toS (w_mono h fun d s1 h => w_toS (w_mono h fun a s2 ⟨k, c, fs, e, h1, h⟩ => by
    show Ws N O (match objAt s2 a with | some (k, c, fs) => _ | none => _)
    rw [e]; simp only []; rw [if_pos h1]; exact h))
theorem w_fldA {ok : Nat → Bool} {f : Str} {g : Int → Int → Int} (h : Wo (fun a s1 => ∃ k c fs i, objAt s1 a = some (k, c, fs) ∧ ok c = true ∧ fs.lookup f = some (.int i) ∧ Wo (fun b s2 => ∃ j fs', b = .val (.int j) ∧ s2.M[k]? = some (.obj c fs') ∧ fs'.length < 1000 ∧ N ⟨s2.env, s2.M.set k (.obj c (putD f (.int (g i j)) fs'))⟩) (fun x s => O (.er x s)) (mv s1)) (fun x s => O (.er x s)) (mo s)) : Ws N O (mFldA ok f g mo mv s) :=
  w_toS (w_mono h fun a s1 ⟨k, c, fs, i, e, h1, h2, h⟩ => by
    show Ws N O (match objAt s1 a with | some (k, c, fs) => _ | none => _)
    rw [e]; simp only []; rw [if_pos h1, h2]
    exact w_toS (w_mono h fun b s2 ⟨j, fs', e1, e2, h3, h⟩ => by
      subst e1
      show Ws N O (match s2.M[k]? with | some (.obj c' fs') => _ | _ => _)
      rw [e2]; simp only []; rw [if_pos ⟨trivial, h3⟩]; exact h))
theorem w_methN {c : Nat} {nm : Str} {f : Mf} (h : Wo (fun a s1 => ∃ k fs, objAt s1 a = some (k, c, fs) ∧ fs.lookup nm = none ∧ Wo (fun ds s2 => Fo (fun a M' => QA a ⟨s2.env, M'⟩) (f (.cid k :: ds) s2.M)) X (ma s1)) X (mo s)) : Wo QA X (mMethN c nm f mo ma s) := w_bind (w_mono h fun a s1 ⟨k, fs, e, h1, h⟩ => by
  show Wo QA X (match objAt s1 a with | some (k, c', fs) => _ | none => _)
  rw [e]; simp only []; rw [if_pos ⟨trivial, h1⟩]
  exact w_bind (w_mono h fun ds s2 h => by
    show Wo QA X (match f (.cid k :: ds) s2.M with | .ok a M' => _ | _ => _)
    cases q : f (.cid k :: ds) s2.M <;> rw [q] at h <;> exact h))
theorem w_methS {c : Nat} {nm : Str} {f : Mf} (h : Wo (fun a s1 => ∃ k fs, objAt s1 a = some (k, c, fs) ∧ fs.lookup nm = none ∧ Wo (fun ds s2 => Fx (fun a M' => QA a ⟨s2.env, M'⟩) (fun x M' => X x ⟨s2.env, M'⟩) (f (.cid k :: ds) s2.M)) X (ma s1)) X (mo s)) : Wo QA X (mMethS c nm f mo ma s) := w_bind (w_mono h fun a s1 ⟨k, fs, e, h1, h⟩ => by
  show Wo QA X (match objAt s1 a with | some (k, c', fs) => _ | none => _)
  rw [e]; simp only []; rw [if_pos ⟨trivial, h1⟩]
  exact w_bind (w_mono h fun ds s2 h => by
    show Wo QA X (match f (.cid k :: ds) s2.M with | .ok a M' => _ | .er x M' => _ | .no => _)
    cases q : f (.cid k :: ds) s2.M <;> rw [q] at h <;> exact h))
theorem w_makeN {c : Nat} {f : Mf} {dds : List D} (h : Wo (fun ds s1 => Fo (fun a M' => a = .val .non ∧ QA (.val (.cid s1.M.length)) ⟨s1.env, M'⟩) (f (.cid s1.M.length :: (ds ++ dds)) (s1.M ++ [.obj c []]))) X (ma s)) : Wo QA X (mMakeN c f dds ma s) := w_bind (w_mono h fun ds s1 h => by
  show Wo QA X (match f (.cid s1.M.length :: (ds ++ dds)) (s1.M ++ [.obj c []]) with | .ok (.val .non) M' => _ | _ => _)
  cases q : f (.cid s1.M.length :: (ds ++ dds)) (s1.M ++ [.obj c []]) with
  | no => rw [q] at h; exact h
  | er x M' => rw [q] at h; exact h
  | ok a M' => rw [q] at h; obtain ⟨rfl, h⟩ := h; exact h)
theorem w_makeS {c : Nat} {f : Mf} {dds : List D} (h : Wo (fun ds s1 => Fx (fun a M' => a = .val .non ∧ QA (.val (.cid s1.M.length)) ⟨s1.env, M'⟩) (fun x M' => X x ⟨s1.env, M'⟩) (f (.cid s1.M.length :: (ds ++ dds)) (s1.M ++ [.obj c []]))) X (ma s)) : Wo QA X (mMakeS c f dds ma s) := w_bind (w_mono h fun ds s1 h => by
  show Wo QA X (match f (.cid s1.M.length :: (ds ++ dds)) (s1.M ++ [.obj c []]) with | .ok (.val .non) M' => _ | .er x M' => _ | _ => _)
  cases q : f (.cid s1.M.length :: (ds ++ dds)) (s1.M ++ [.obj c []]) with
  | no => rw [q] at h; exact h
  | er x M' => rw [q] at h; exact h
  | ok a M' => rw [q] at h; obtain ⟨rfl, h⟩ := h; exact h)
theorem objAt_of {k c : Nat} {fs : List (Str × D)} (h : s.M[k]? = some (.obj c fs)) : objAt s (.val (.cid k)) = some (k, c, fs) := by unfold objAt; simp only []; rw [h]
end
end Y
namespace Y
open PySem L2 Z
open PyProof.Rows
end Y
namespace Y
open PySem L2 Z
section
variable {K : PySem.W.Frag} {ct : Ct} {H0 : Hp} {W : WX}
def leI (i j : Int) : Bool := decide (i ≤ j)
def mSortVals (mo : Mo AI) : Mo AI := fun s => (mo s).bind fun a s1 => match (viewD s1 a).bind fun l => intsD (l.map Prod.snd) with
  | some is => .ok (.new (.lst ((is.mergeSort leI).map D.int))) s1
  | none => .no
def mMinVals (mo : Mo AI) : Mo AI := fun s => (mo s).bind fun a s1 => match a with
  | .val (.cid k) => match s1.M[k]? with
    | some (.dK l) => match intsD (l.map Prod.snd) with
      | some (i :: is) => .ok (.val (.int (is.foldl min i))) s1
      | _ => .no
    | _ => .no
  | _ => .no
def mAsgTB (n : Nat) (g : Tgs) (f : Mf) (m : Mo (List AI)) : Ms := fun s => (m s).toS fun as s1 => match snap s1 as with
  | some ds => if D.noIdL ds = true then (match f ds [] with
    | .ok (.val d) _ => (match tupOf d with
      | some l => if l.length = n ∧ l.all D.scal = true then (match g l s1 with | some s2 => .nx s2 | none => .no) else .no
      | none => .no)
    | _ => .no) else .no
  | none => .no
variable {s : Stt} {QA : AI → Stt → Prop} {X : Exn → Stt → Prop} {N : Stt → Prop} {O : Rs → Prop}
theorem w_sortVals {m : Mo AI} (h : Wo (fun a s1 => ∃ l is, viewD s1 a = some l ∧ intsD (l.map Prod.snd) = some is ∧ QA (.new (.lst ((is.mergeSort leI).map D.int))) s1) X (m s)) : Wo QA X (mSortVals m s) := w_bind (w_mono h fun a s1 ⟨l, is, e1, e2, h⟩ => by
  show Wo QA X (match (viewD s1 a).bind fun l => intsD (l.map Prod.snd) with | some is => _ | none => _)
  rw [e1, Option.bind_some, e2]; exact h)
theorem w_minVals {m : Mo AI} (h : Wo (fun a s1 => ∃ k l i is, a = .val (.cid k) ∧ s1.M[k]? = some (.dK l) ∧ intsD (l.map Prod.snd) = some (i :: is) ∧ QA (.val (.int (is.foldl min i))) s1) X (m s)) : Wo QA X (mMinVals m s) := w_bind (w_mono h fun a s1 ⟨k, l, i, is, e1, e2, e3, h⟩ => by
  subst e1
  show Wo QA X (match s1.M[k]? with | some (.dK l) => _ | _ => _)
  rw [e2]; simp only []; rw [e3]; exact h)
theorem w_asgTB {n : Nat} {g : Tgs} {f : Mf} {m : Mo (List AI)} (h : Wo (fun as s1 => ∃ ds d M' l s2, snap s1 as = some ds ∧ D.noIdL ds = true ∧ f ds [] = .ok (.val d) M' ∧ tupOf d = some l ∧ l.length = n ∧ l.all D.scal = true ∧ g l s1 = some s2 ∧ N s2) (fun x s => O (.er x s)) (m s)) : Ws N O (mAsgTB n g f m s) := w_toS (w_mono h fun as s1 ⟨ds, d, M', l, s2, e1, e2, e3, e4, e5, e6, e7, h⟩ => by
  show Ws N O (match snap s1 as with | some ds => _ | none => _)
  rw [e1]; simp only []; rw [if_pos e2, e3]; simp only []; rw [e4]; simp only []; rw [if_pos ⟨e5, e6⟩, e7]; exact h)
theorem w_get2 {m1 m2 m3 : Mo AI} (h : Wo (fun a s1 => (∃ l, viewD s1 a = some l) ∧ Wo (fun i s2 => Wo (fun x s3 => ∃ l k, viewD s3 a = some l ∧ keyOf i = some k ∧ QA (.val ((vl l k).getD x)) s3) X (mV m3 s2)) X (mV m2 s1)) X (m1 s)) : Wo QA X (mGet2 m1 m2 m3 s) := w_bind (w_mono h fun a s1 ⟨⟨l, e⟩, h⟩ => by
  show Wo QA X (match viewD s1 a with | some _ => _ | none => _)
  rw [e]
  exact w_bind (w_mono h fun i s2 h => w_bind (w_mono h fun x s3 ⟨l', k, e1, e2, h⟩ => by
    unfold fGet; rw [e1]; simp only []; rw [e2]; exact h)))
end
theorem z_b0 {b : Bool} {A C : Prop} (h : b = false) (k : C) : if b = true then A else C := by rw [h]; exact k
theorem z_b1 {b : Bool} {A C : Prop} (h : b = true) (k : A) : if b = true then A else C := by rw [h]; exact k
end Y
namespace Y
open PySem L2 Z
section
variable {K : PySem.W.Frag} {ct : Ct} {H0 : Hp} {W : WX}
def mWN (m : Mo AI) : Mo Im := fun s => match m s with
  | .ok (.new (.dK l)) s1 => .ok ⟨dIt .keys l, none⟩ s1
  | .er x s1 => .er x s1
  | _ => .no
variable {s : Stt} {QI : Im → Stt → Prop} {X : Exn → Stt → Prop}
theorem w_wn {m : Mo AI} (h : Wo (fun a s1 => ∃ l, a = .new (.dK l) ∧ QI ⟨dIt .keys l, none⟩ s1) X (m s)) : Wo QI X (mWN m s) := by
  unfold mWN
  cases q : m s with
  | no => rw [q] at h; exact h
  | er x s1 => rw [q] at h; exact h
  | ok a s1 => rw [q] at h; obtain ⟨l, rfl, h⟩ := h; exact h
end
end Y
namespace Y
open PySem L2 Z
open PySem.W
section
variable {s : Stt} {QA : AI → Stt → Prop} {X : Exn → Stt → Prop} {N : Stt → Prop} {O : Rs → Prop}
theorem ixN_nn {n : Nat} {i : Int} (h0 : 0 ≤ i) (h1 : i < n) : ixN n i = some i.toNat := by unfold ixN; rw [if_pos h0, if_pos h1]
theorem so_setLst {a : AI} {i : Int} {d : D} {l : List D} {j : Nat} (e : getC s a = some (.lst l)) (e2 : ixN l.length i = some j) (h : N (setC s a (.lst (l.set j d)))) : So N (setIt a (.int i) d s) := by
  unfold setIt; rw [e]; simp only []; rw [e2]; exact h
theorem so_setI {a : AI} {i d : Int} {ns : List Int} (e : getC s a = some (.lst (ns.map D.int))) (h0 : 0 ≤ i) (h1 : i < ns.length) (h : N (setC s a (.lst ((ns.set i.toNat d).map D.int)))) : So N (setIt a (.int i) (.int d) s) := by
  refine so_setLst e (ixN_nn h0 (by rw [List.length_map]; exact h1)) ?_
  rw [← List.map_set]; exact h
theorem le_int (i j : Int) : dataLe false pyD (.int i) (.int j) = leI i j := by
  show (!(decide (j < i) || (!decide (i < j) && false))) = decide (i ≤ j)
  by_cases h : j < i
  · have h2 : ¬ i ≤ j := by omega
    have h3 : ¬ i < j := by omega
    simp [h, h2, h3]
  · have h2 : i ≤ j := by omega
    simp [h, h2]
theorem sort_ints (is : List Int) : (is.map D.int).mergeSort (dataLe false pyD) = (is.mergeSort leI).map D.int := (List.map_mergeSort fun i _ j _ => (le_int i j).symm).symm
theorem sortOk_ints (is : List Int) : SortOk (is.map D.int) := by
  refine ⟨fun d hd => ?_, fun d hd d' hd' => ?_, .inr fun d hd => ?_, fun d hd => ?_⟩
  · obtain ⟨i, _, rfl⟩ := List.mem_map.mp hd; rfl
  · rw [List.map_map] at hd hd'
    obtain ⟨i, _, rfl⟩ := List.mem_map.mp hd
    obtain ⟨j, _, rfl⟩ := List.mem_map.mp hd'; rfl
  · rw [List.map_map] at hd
    obtain ⟨i, _, rfl⟩ := List.mem_map.mp hd
    exact ⟨(fun z => nomatch z), (fun _ z => nomatch z)⟩
  · obtain ⟨i, _, rfl⟩ := List.mem_map.mp hd; show 0 ≤ 40; decide
theorem leI_perm (is : List Int) : (is.mergeSort leI).Perm is := List.mergeSort_perm ..
def lePp (x y : Int × Int) : Bool := !ltP y x
theorem le_pair (x y : Int × Int) : dataLe false pyD (tP x) (tP y) = lePp x y := congrArg (!·) (dlt y x)
theorem sort_pairs (ps : List (Int × Int)) : (ps.map tP).mergeSort (dataLe false pyD) = (ps.mergeSort lePp).map tP := (List.map_mergeSort fun i _ j _ => (le_pair i j).symm).symm
theorem sortOk_pairs (ps : List (Int × Int)) : SortOk (ps.map tP) := by
  refine ⟨fun d hd => ?_, fun d hd d' hd' => ?_, .inl fun d hd => ?_, fun d hd => ?_⟩
  · obtain ⟨i, _, rfl⟩ := List.mem_map.mp hd; rfl
  · rw [List.map_map] at hd hd'
    obtain ⟨i, _, rfl⟩ := List.mem_map.mp hd
    obtain ⟨j, _, rfl⟩ := List.mem_map.mp hd'; rfl
  · rw [List.map_map] at hd
    obtain ⟨i, _, rfl⟩ := List.mem_map.mp hd
    exact ⟨_, _, rfl⟩
  · obtain ⟨i, _, rfl⟩ := List.mem_map.mp hd; show 1 ≤ 40; decide
theorem lePp_perm (ps : List (Int × Int)) : (ps.mergeSort lePp).Perm ps := List.mergeSort_perm ..
theorem lePp_pw (ps : List (Int × Int)) : (ps.mergeSort lePp).Pairwise (fun x y => x.1 < y.1 ∨ (x.1 = y.1 ∧ x.2 ≤ y.2)) := (List.pairwise_mergeSort (fun a b c h1 h2 => by unfold lePp ltP at *; simp at *; omega) (fun a b => by unfold lePp ltP; simp; omega) ps).imp fun h => by unfold lePp ltP at h; simp at h; omega
end
end Y
namespace Y
open PySem L2 Z
open PySem.W
section
variable {s : Stt} {QA : AI → Stt → Prop} {QI : Im → Stt → Prop} {X : Exn → Stt → Prop} {N : Stt → Prop} {O : Rs → Prop}
theorem w_wz {r : Mo (List D)} (h : Wo (fun ds s1 => ∃ l l', ds = [.lst l, .lst l'] ∧ QI ⟨zipL l l', none⟩ s1) X (r s)) : Wo QI X (mWZ r s) :=
  w_bind (w_mono h fun ds s1 h => by
    obtain ⟨l, l', rfl, h⟩ := h
    exact h)
theorem w_wzI {l l' : List D} {P : List D → List D → Prop} (h : P l l') : ∃ m m', [D.lst l, D.lst l'] = [.lst m, .lst m'] ∧ P m m' := ⟨l, l', rfl, h⟩
theorem ib_le {x : Int} {m : Nat} (h : x.natAbs < 2 ^ m) : Builtin.Int.intBits x ≤ m := by
  unfold Builtin.Int.intBits
  by_cases h0 : x = 0
  · subst h0; simp
  · rw [if_neg (by simpa using h0)]
    have := (Nat.log2_lt (by omega)).mpr h
    omega
theorem cshl_1 {j : Int} (h0 : 0 ≤ j) (h1 : j ≤ 100000) : CShl 1 j := by
  have := ib_le (x := 1) (m := 1) (by decide)
  exact ⟨by omega, by omega⟩
theorem cshl_N {x j : Int} {m : Nat} (hx : x.natAbs < 2 ^ m) (hm : m ≤ 1000000) (h0 : 0 ≤ j) (h1 : j ≤ 1000000) : CShl x j := by
  have := ib_le hx
  exact ⟨by omega, by omega⟩
end
end Y
namespace Y
open PySem L2 Z
open PySem.W
theorem vl_pu (l : List (Key × D)) (k : Key) (d : D) (j : Key) : vl (pu l k d) j = if j = k then some d else vl l j := by
  unfold pu
  split
  · rename_i ha
    rw [List.any_eq_true] at ha
    obtain ⟨p0, hp0, e0⟩ := ha
    have e0 := of_decide_eq_true e0
    unfold vl
    rw [List.find?_map]
    have ec : ((fun p : Key × D => decide (p.1 = j)) ∘ fun p : Key × D => if p.1 = k then (p.1, d) else p) = fun p : Key × D => decide (p.1 = j) := by
      funext p
      show decide ((if p.1 = k then (p.1, d) else p).1 = j) = _
      split <;> rfl
    rw [ec]
    by_cases hj : j = k
    · rw [if_pos hj]
      cases hf : l.find? fun p => decide (p.1 = j) with
      | none => exact absurd (decide_eq_true (e0.trans hj.symm)) (List.find?_eq_none.mp hf p0 hp0)
      | some p =>
        have this : p.1 = j := by have z := List.find?_some hf; simpa using z
        show some (if p.1 = k then (p.1, d) else p).2 = some d
        rw [if_pos (this.trans hj)]
    · rw [if_neg hj]
      cases hf : l.find? fun p => decide (p.1 = j) with
      | none => rfl
      | some p =>
        have this : p.1 = j := by have z := List.find?_some hf; simpa using z
        show some (if p.1 = k then (p.1, d) else p).2 = some p.2
        rw [if_neg (fun z => hj (this.symm.trans z))]
  · rename_i ha
    unfold vl
    rw [List.find?_append]
    by_cases hj : j = k
    · rw [if_pos hj, List.find?_eq_none.mpr fun p hp => by
        intro z
        have z := of_decide_eq_true z
        exact ha (List.any_eq_true.mpr ⟨p, hp, decide_eq_true (z.trans hj)⟩)]
      rw [Option.none_or, List.find?_cons, decide_eq_true (show ((k, d) : Key × D).1 = j from hj.symm)]; rfl
    · rw [if_neg hj]
      have : ([(k, d)].find? fun p : Key × D => decide (p.1 = j)) = none := by
        rw [List.find?_cons, decide_eq_false (show ¬ ((k, d) : Key × D).1 = j from fun z => hj z.symm)]; rfl
      rw [this, Option.or_none]
end Y
namespace Y
open PySem L2 Z
section
variable {K : PySem.W.Frag}
/-- a list, a tuple that the program has -/
def KL (K : PySem.W.Frag) (a : Addr) (xs : List V) : Prop := ∃ (o : Obj) (its : Array Value) (n : Nat), K.lookup a = some o ∧ o.cls = .type "list" ∧ o.dict = none ∧ o.data = .seq its n ∧ its.size ≤ sizeLine ∧ Vals xs its.toList
theorem cr_kl {a : Addr} {ns : List Int} (h : KL K a (ns.map V.int)) : CR K (.ref a) (.clst (ns.map D.int)) := fun _ _ _ => .clst (.inr h) (rpl_ints ns)
end
section
variable {K : PySem.W.Frag} {ct : Ct} {H0 : Hp} {W : WX} {S : Sh} {s : Stt} {σ : St} {H : Hp}
/-- o[i] op= e, a list of ints -/
def mAugS (f : Int → Int → Int) (mo mi mv : Mo AI) : Ms := fun s => (mo s).toS fun a s1 => (mV mi s1).toS fun i s2 => match i with
  | .int k => (match (viewL s2 a).bind fun l => l[k.toNat]? with
    | some (.int x) => if 0 ≤ k then ((mv s2).toS fun b s3 => match b with
      | .val (.int y) => match setIt a (.int k) (.int (f x y)) s3 with
        | some s4 => .nx s4
        | none => .no
      | _ => .no) else .no
    | _ => .no)
  | _ => .no
end
section
variable {s : Stt} {QA : AI → Stt → Prop} {X : Exn → Stt → Prop} {N : Stt → Prop} {O : Rs → Prop}
theorem w_augS {f : Int → Int → Int} {mo mi mv : Mo AI} (h : Wo (fun a s1 => Wo (fun i s2 => ∃ (k x : Int) (l : List D), i = .int k ∧ viewL s2 a = some l ∧ l[k.toNat]? = some (.int x) ∧ 0 ≤ k ∧ Wo (fun b s3 => ∃ y, b = .val (.int y) ∧ So N (setIt a (.int k) (.int (f x y)) s3)) (fun x s => O (.er x s)) (mv s2)) (fun x s => O (.er x s)) (mV mi s1)) (fun x s => O (.er x s)) (mo s)) : Ws N O (mAugS f mo mi mv s) :=
  w_toS (w_mono h fun a s1 h => w_toS (w_mono h fun i s2 h => by
    obtain ⟨k, x, l, rfl, h1, h2, h3, h⟩ := h
    show Ws N O (match (viewL s2 a).bind fun l => l[k.toNat]? with
    | some (.int x) => if 0 ≤ k then ((mv s2).toS fun b s3 => match b with
      | .val (.int y) => match setIt a (.int k) (.int (f x y)) s3 with
        | some s4 => .nx s4
        | none => .no
      | _ => .no) else .no
    | _ => .no)
    rw [h1, Option.bind_some, h2]
    show Ws N O (if 0 ≤ k then _ else _)
    rw [if_pos h3]
    refine w_toS (w_mono h fun b s3 h => ?_)
    obtain ⟨y, rfl, h⟩ := h
    show Ws N O (match setIt a (.int k) (.int (f x y)) s3 with | some s4 => .nx s4 | none => .no)
    cases q : setIt a (.int k) (.int (f x y)) s3 <;> rw [q] at h <;> exact h))
end
end Y
namespace Y
open PySem L2 Z
section
variable {K : PySem.W.Frag} {ct : Ct} {H0 : Hp} {W : WX} {S : Sh} {s : Stt} {σ : St} {H : Hp}
theorem viewDT_ok {Hs : Hp} {v : V} {a : AI} {l : List (List Key × D)} (r : Rel K ct H0 S s σ H) (i : ItOk K ct Hs S s σ H v a) (e : viewDT s a = some l) : ∃ p kvs, v = .ref p ∧ Rd H p (.dT kvs) ∧ RpK K S.G S.α s.M.length kvs l := by
  have frz : ∀ {u : V} {d : D}, Rp K S.G S.α s.M.length u d → dictTOf s.M d = some l → ∃ p kvs, u = .ref p ∧ Rd H p (.dT kvs) ∧ RpK K S.G S.α s.M.length kvs l := fun {u d} h e => by
    cases d with
    | dT l' => cases e; cases h with | dT h1 h3 h2 => exact ⟨_, _, rfl, uT' (r.sub _ _ h1), .of h3 h2⟩
    | cid k =>
      cases h
      obtain ⟨c, q, e1⟩ := Option.bind_eq_some_iff.mp (show s.M[k]?.bind Cn.aT = some l from e)
      cases c with
      | dT l' =>
        cases e1
        obtain ⟨vs, h1, h3, h2⟩ := (r.ids k _ q).2
        exact ⟨_, vs, rfl, .inl h1, .of h3 h2⟩
      | _ => cases e1
    | _ => cases e
  have own : ∀ {p : Addr} {c : Cn}, CnOk K ct S s.M.length H p c → dictTOf s.M c.toD = some l → ∃ q kvs, V.ref p = .ref q ∧ Rd H q (.dT kvs) ∧ RpK K S.G S.α s.M.length kvs l := fun {p c} h e => by
    cases c with
    | dT l' => cases e; obtain ⟨vs, h1, h3, h2⟩ := h; exact ⟨p, vs, rfl, .inl h1, .of h3 h2⟩
    | lst l' => cases e
    | dK l' => cases e
    | obj _ _ => cases e
  unfold viewDT at e
  cases a with
  | val d => exact frz i e
  | new c =>
    obtain ⟨p, rfl, _, _, _, hc, h5⟩ := i
    exact own h5 e
  | slot j =>
    obtain ⟨d, q0, e⟩ := Option.bind_eq_some_iff.mp e
    obtain ⟨en, q1, rfl⟩ := Option.map_eq_some_iff.mp q0
    have q := entAt_eq q1
    have hi : σ[j]? = some (some v) := i
    have hh := r.slot j en q
    cases en with
    | fz d =>
      obtain ⟨v', h1, h2⟩ := hh
      rw [hi] at h1; cases h1
      exact frz h2 e
    | xn x => exact (entAt_xn q1).elim
    | ow c =>
      obtain ⟨p, h1, _, _, hc, h5⟩ := hh
      rw [hi] at h1; cases h1
      exact own h5 e
def keysD : List D → Option (List Key)
  | [] => some []
  | d :: l => (keyOf d).bind fun k => (keysD l).map (k :: ·)
def tkey : D → Option (List Key)
  | .tup l => keysD l
  | _ => none
theorem keysD_rp {G : Hp} {α : Nat → Addr} {n : Nat} : ∀ {l : List D} {vs : List V} {ks : List Key}, RpL K G α n vs l → keysD l = some ks → vs = ks.map kV
  | [], _, _, .nil, e => by cases e; rfl
  | d :: l, _, _, .cons h r, e => by
    obtain ⟨k, e1, e2⟩ := Option.bind_eq_some_iff.mp (show (keyOf d).bind (fun k => (keysD l).map (k :: ·)) = _ from e)
    obtain ⟨ks, e3, rfl⟩ := Option.map_eq_some_iff.mp e2
    rw [keyOf_rp h e1, keysD_rp r e3]; rfl
theorem tkey_rp {n : Nat} {v : V} {d : D} {ks : List Key} (rel : Rel K ct H0 S s σ H) (h : Rp K S.G S.α n v d) (e : tkey d = some ks) : ∃ b, v = .ref b ∧ H b = some (.tup (ks.map kV)) := by
  cases h with
  | tup h1 h2 =>
    refine ⟨_, rfl, ?_⟩
    rw [← keysD_rp h2 e]
    exact uP' (rel.sub _ _ h1)
  | _ => cases e
theorem dgetT_ok {n : Nat} {p b : Addr} {kvs : List (List Key × V)} {l : List (List Key × D)} {k : List Key} (h : Rd H p (.dT kvs)) (hb : H b = some (.tup (k.map kV))) (r : RpK K S.G S.α n kvs l) :
    (vl l k = none ∧ DGet H p (.ref b) none) ∨ ∃ v d, vl l k = some d ∧ DGet H p (.ref b) (some v) ∧ Rp K S.G S.α n v d := by
  have g : DGet H p (.ref b) (valV kvs k) := .inr ⟨kvs, k, b, h, rfl, hb, rfl⟩
  rcases r.get (k := k) with ⟨h1, h2⟩ | ⟨v, d, h1, h2, h3⟩
  · rw [h2] at g; exact .inl ⟨h1, g⟩
  · rw [h2] at g; exact .inr ⟨v, d, h1, g, h3⟩
def fIxDT : Stt → AI → AI → Ro AI := fun s a b => match viewDT s a, b with
  | some l, .val i => match (tkey i).bind (vl l) with
    | some d => .ok (.val d) s
    | none => .no
  | _, _ => .no
theorem j_ixDT : J2 K ct H0 (rIxY K) fIxDT := fun W S s σ H Hs Hs' x y a b Q rel ia ib p => by
  unfold fIxDT at p
  split at p
  · rename_i l i e1
    obtain ⟨q, kvs, rfl, h1, h2⟩ := viewDT_ok rel ia e1
    split at p
    · rename_i d e
      obtain ⟨k, ek, ev⟩ := Option.bind_eq_some_iff.mp e
      obtain ⟨b, rfl, hb⟩ := tkey_rp rel ib ek
      rcases dgetT_ok h1 hb h2 with ⟨h3, h4⟩ | ⟨v, d', h3, h4, h5⟩
      · rw [h3] at ev; cases ev
      · rw [h3] at ev; cases ev
        exact .inr ⟨q, v, rfl, h4, p.val rel h5⟩
    · exact False.elim p
  · exact False.elim p
def fInDT (g : Bool → Bool) : Stt → AI → AI → Ro AI := fun s a b => match a, viewDT s b with
  | .val i, some l => match tkey i with
    | some k => .ok (.val (.bl (g (vl l k).isSome))) s
    | none => .no
  | _, _ => .no
theorem inDT_ok {g : Bool → Bool} : J2 K ct H0 (rDIn g) (fInDT g) := fun W S s σ H Hs Hs' x y a b Q rel ia ib p => by
  unfold fInDT at p
  split at p
  · rename_i i l e1
    obtain ⟨q, kvs, rfl, h1, h2⟩ := viewDT_ok rel ib e1
    split at p
    · rename_i k ek
      obtain ⟨b, rfl, hb⟩ := tkey_rp rel ia ek
      rcases dgetT_ok h1 hb h2 with ⟨h3, h4⟩ | ⟨v, d', h3, h4, h5⟩
      · rw [h3] at p; exact ⟨q, _, rfl, h4, p.val rel (.bl _)⟩
      · rw [h3] at p; exact ⟨q, _, rfl, h4, p.val rel (.bl _)⟩
    · exact False.elim p
  · exact False.elim p
theorem j_inDT : J2 K ct H0 (rInY K) (fInDT id) := fun W S s σ H Hs Hs' x y a b Q rel ia ib p => .inr (inDT_ok W S s σ H Hs Hs' x y a b Q rel ia ib p)
/-- o[i] = d -/
def setItT (a : AI) (i d : D) (s : Stt) : Option Stt := match getC s a with
  | some (.dT l) => (tkey i).bind fun k => if l.length < sizeLine then some (setC s a (.dT (pu l k d))) else none
  | _ => none
theorem setItT_ok {Hs : Hp} {x y v : V} {a : AI} {i d : D} {s' : Stt} {Q : Hp → Prop} (rel : Rel K ct H0 S s σ H) (ia : ItOk K ct Hs S s σ H x a) (ii : Rp K S.G S.α s.M.length y i) (id : Rp K S.G S.α s.M.length v d) (e : setItT a i d s = some s')
    (q : ∀ H', Stp S s.M.length H S s'.M.length H' → Rel K ct H0 S s' σ H' → Q H') : rSetY x y v H Q := by
  unfold setItT at e
  split at e
  · rename_i l eg
    obtain ⟨k, e1, e2⟩ := Option.bind_eq_some_iff.mp e
    split at e2
    · rename_i hz
      cases e2
      obtain ⟨p, rfl, ⟨us, h1, h3, h2⟩, h4⟩ := mut_ok rel ia eg
      obtain ⟨b, rfl, hb⟩ := tkey_rp rel ii e1
      have rk := RpK.of h3 h2
      have rk' := rk.put (k := k) id
      obtain ⟨r1, r2⟩ := h4 (.dT (putK us k v)) (.dT (pu l k d)) (fun _ => rfl) ⟨_, upd_same, rk'.keys, rk'.vals⟩
      exact .inr ⟨p, _, rfl, DPut.t h1 hb (by rw [rk.len]; exact hz), q _ r2 r1⟩
    · cases e2
  · cases e
def mAsgST (mo mi : Mo AI) (mv : Mo AI) : Ms := fun s => (mV mv s).toS fun d s1 => (mo s1).toS fun a s2 => (mV mi s2).toS fun i s3 => match setItT a i d s3 with
  | some s4 => .nx s4
  | none => .no
theorem sv_asgST {te to ti : TE} {mo mi mv : Mo AI} (hv : Ei K ct H0 W te mv) (ho : Ei K ct H0 W to mo) (hi : Ei K ct H0 W ti mi) : Sv K ct H0 W (tAsg te (gSub to ti rSetY)) (mAsgST mo mi mv) := fun S s σ H Dn rel p =>
  ev_of hv S s σ H _ rel (PstS.bind p fun S1 s1 H1 v d st1 rel1 i1 p1 => ho S1 s1 σ H1 _ rel1 (PstS.bind (PstS.from p1 st1) fun S2 s2 H2 x a st2 rel2 i2 p2 => ev_of hi S2 s2 σ H2 _ rel2 (PstS.bind (PstS.from p2 st2) fun S3 s3 H3 y i st3 rel3 i3 p3 => by
    have p3 := PstS.from p3 st3
    split at p3
    · rename_i s4 e
      exact setItT_ok rel3 (i2.step st3) i3 (Rp.step (st2.trans st3) i1) e fun H' st rl => p3 S3 σ H' st rl
    · exact False.elim p3)))
def mDNewT : Mo AI := fun s => .ok (.new (.dT [])) s
theorem ei_dnewT : Ei K ct H0 W tDNewT mDNewT := fun S s σ H Q rel p q hq => p.newC rel hq rfl ⟨[], upd_same, rfl, .nil⟩
/-- d.get(k), d.get(k, x) -/
def fGetT (s : Stt) (a : AI) (i x : D) : Ro AI := match viewDT s a with
  | some l => match tkey i with
    | some k => .ok (.val ((vl l k).getD x)) s
    | none => .no
  | none => .no
def mGet2T (mo mi mx : Mo AI) : Mo AI := fun s => (mo s).bind fun a s1 => match viewDT s1 a with
  | some _ => (mV mi s1).bind fun i s2 => (mV mx s2).bind fun x s3 => fGetT s3 a i x
  | none => .no
def mGet1T (mo mi : Mo AI) : Mo AI := fun s => (mo s).bind fun a s1 => match viewDT s1 a with
  | some _ => (mV mi s1).bind fun i s2 => fGetT s2 a i .non
  | none => .no
/-- d.get(k) of a dict with plain keys -/
def mGet1 (mo mi : Mo AI) : Mo AI := fun s => (mo s).bind fun a s1 => match viewD s1 a with
  | some _ => (mV mi s1).bind fun i s2 => fGet s2 a i .non
  | none => .no
end
section
variable {s : Stt} {X : Exn → Stt → Prop} {QA : AI → Stt → Prop} {N : Stt → Prop} {O : Rs → Prop} {m1 m2 m3 : Mo AI}
theorem w_dnewT (h : QA (.new (.dT [])) s) : Wo QA X (mDNewT s) := h
theorem w_ixDT {a : AI} {i d : D} {l : List (List Key × D)} {k : List Key} (e0 : viewDT s a = some l) (ek : tkey i = some k) (e : vl l k = some d) (h : QA (.val d) s) : Wo QA X (fIxDT s a (.val i)) := by
  unfold fIxDT; rw [e0]; simp only []; rw [ek, Option.bind_some, e]; exact h
theorem w_inDT {g : Bool → Bool} {b : AI} {i : D} {l : List (List Key × D)} {k : List Key} (e0 : viewDT s b = some l) (ek : tkey i = some k) (h : QA (.val (.bl (g (vl l k).isSome))) s) : Wo QA X (fInDT g s (.val i) b) := by
  unfold fInDT; rw [e0]; simp only []; rw [ek]; exact h
theorem so_setT {a : AI} {i d : D} {l : List (List Key × D)} {k : List Key} (e : getC s a = some (.dT l)) (e2 : tkey i = some k) (hz : l.length < sizeLine) (h : N (setC s a (.dT (pu l k d)))) : So N (setItT a i d s) := by
  unfold setItT; rw [e]; simp only []; rw [e2, Option.bind_some, if_pos hz]; exact h
theorem w_asgST (h : Wo (fun d s1 => Wo (fun a s2 => Wo (fun i s3 => So N (setItT a i d s3)) (fun x s => O (.er x s)) (mV m2 s2)) (fun x s => O (.er x s)) (m1 s1)) (fun x s => O (.er x s)) (mV m3 s)) : Ws N O (mAsgST m1 m2 m3 s) :=
  w_toS (w_mono h fun d s1 h => w_toS (w_mono h fun a s2 h => w_toS (w_mono h fun i s3 h => by
    show Ws N O (match setItT a i d s3 with | some s4 => _ | none => _)
    cases e : setItT a i d s3 with
    | none => rw [e] at h; exact h.elim
    | some s4 => rw [e] at h; exact h)))
theorem w_get2T (h : Wo (fun a s1 => (∃ l, viewDT s1 a = some l) ∧ Wo (fun i s2 => Wo (fun x s3 => ∃ l k, viewDT s3 a = some l ∧ tkey i = some k ∧ QA (.val ((vl l k).getD x)) s3) X (mV m3 s2)) X (mV m2 s1)) X (m1 s)) : Wo QA X (mGet2T m1 m2 m3 s) := w_bind (w_mono h fun a s1 ⟨⟨l, e⟩, h⟩ => by
  show Wo QA X (match viewDT s1 a with | some _ => _ | none => _)
  rw [e]
  exact w_bind (w_mono h fun i s2 h => w_bind (w_mono h fun x s3 ⟨l', k, e1, e2, h⟩ => by
    unfold fGetT; rw [e1]; simp only []; rw [e2]; exact h)))
theorem w_get1T (h : Wo (fun a s1 => (∃ l, viewDT s1 a = some l) ∧ Wo (fun i s2 => ∃ l k, viewDT s2 a = some l ∧ tkey i = some k ∧ QA (.val ((vl l k).getD .non)) s2) X (mV m2 s1)) X (m1 s)) : Wo QA X (mGet1T m1 m2 s) := w_bind (w_mono h fun a s1 ⟨⟨l, e⟩, h⟩ => by
  show Wo QA X (match viewDT s1 a with | some _ => _ | none => _)
  rw [e]
  exact w_bind (w_mono h fun i s2 ⟨l', k, e1, e2, h⟩ => by
    show Wo QA X (fGetT s2 a i .non)
    unfold fGetT; rw [e1]; simp only []; rw [e2]; exact h))
theorem w_get1 (h : Wo (fun a s1 => (∃ l, viewD s1 a = some l) ∧ Wo (fun i s2 => ∃ l k, viewD s2 a = some l ∧ keyOf i = some k ∧ QA (.val ((vl l k).getD .non)) s2) X (mV m2 s1)) X (m1 s)) : Wo QA X (mGet1 m1 m2 s) := w_bind (w_mono h fun a s1 ⟨⟨l, e⟩, h⟩ => by
  show Wo QA X (match viewD s1 a with | some _ => _ | none => _)
  rw [e]
  exact w_bind (w_mono h fun i s2 ⟨l', k, e1, e2, h⟩ => by
    show Wo QA X (fGet s2 a i .non)
    unfold fGet; rw [e1]; simp only []; rw [e2]; exact h))
theorem viewDT_cid {k : Nat} {l : List (List Key × D)} (h : s.M[k]? = some (.dT l)) : viewDT s (.val (.cid k)) = some l := by
  show s.M[k]?.bind Cn.aT = some l; rw [h]; rfl
end
end Y
namespace Y
open PySem L2 Z
def mapO {α β : Type} (g : α → Option β) : List α → Option (List β)
  | [] => some []
  | d :: l => (g d).bind fun d' => (mapO g l).map (d' :: ·)
theorem mapO_len {α β : Type} {g : α → Option β} : ∀ {l : List α} {l' : List β}, mapO g l = some l' → l'.length = l.length
  | [], _, e => by cases e; rfl
  | d :: l, _, e => by
    obtain ⟨d', _, e2⟩ := Option.bind_eq_some_iff.mp (show (g d).bind (fun d' => (mapO g l).map (d' :: ·)) = _ from e)
    obtain ⟨r, e3, rfl⟩ := Option.map_eq_some_iff.mp e2
    rw [List.length_cons, List.length_cons, mapO_len e3]
theorem mapO_map {α β γ : Type} {g : β → Option γ} {f : α → β} {h : α → γ} (e : ∀ a, g (f a) = some (h a)) : ∀ l : List α, mapO g (l.map f) = some (l.map h)
  | [] => rfl
  | a :: l => by show (g (f a)).bind _ = _; rw [e a, Option.bind_some, mapO_map e l]; rfl
/-- what stands behind ids, as data -/
def rsv : Nat → List Cn → D → Option D
  | 0, _, _ => none
  | f + 1, M, .cid k => match M[k]? with
    | some (.lst l) => (mapO (rsv f M) l).map .lst
    | some (.dK l) => (mapO (rsv f M) (l.map Prod.snd)).map fun vs => .dK ((l.map Prod.fst).zip vs)
    | some (.dT l) => (mapO (rsv f M) (l.map Prod.snd)).map fun vs => .dT ((l.map Prod.fst).zip vs)
    | _ => none
  | f + 1, M, .tup l => (mapO (rsv f M) l).map .tup
  | f + 1, M, .ctp l => (mapO (rsv f M) l).map .ctp
  | f + 1, M, .lst l => (mapO (rsv f M) l).map .lst
  | f + 1, M, .clst l => (mapO (rsv f M) l).map .clst
  | f + 1, M, .dK l => (mapO (rsv f M) (l.map Prod.snd)).map fun vs => .dK ((l.map Prod.fst).zip vs)
  | f + 1, M, .dT l => (mapO (rsv f M) (l.map Prod.snd)).map fun vs => .dT ((l.map Prod.fst).zip vs)
  | _ + 1, _, .non => some .non
  | _ + 1, _, .bl b => some (.bl b)
  | _ + 1, _, .int i => some (.int i)
  | _ + 1, _, .str x => some (.str x)
  | _ + 1, _, .ty n => some (.ty n)
section
variable {K : PySem.W.Frag} {ct : Ct} {H0 : Hp} {W : WX} {S : Sh} {s : Stt} {σ : St} {H : Hp}
theorem zip_fst {β : Type} : ∀ {ks : List β} {vs : List D}, vs.length = ks.length → (ks.zip vs).map Prod.fst = ks ∧ (ks.zip vs).map Prod.snd = vs
  | [], [], _ => ⟨rfl, rfl⟩
  | k :: ks, v :: vs, e => by
    obtain ⟨h1, h2⟩ := zip_fst (ks := ks) (vs := vs) (by simpa using e)
    exact ⟨by rw [List.zip_cons_cons, List.map_cons, h1], by rw [List.zip_cons_cons, List.map_cons, h2]⟩
def pureR (r : Fr) (s : Stt) : Ro AI := match r with
  | .ok (.val d) M' => match rsv 9 M' d with
    | some d' => .ok (.val d') s
    | none => .no
  | .ok (.new (.lst l)) M' => match mapO (rsv 9 M') l with
    | some l' => .ok (.new (.lst l')) s
    | none => .no
  | .er x M' => match mapO (rsv 9 M') (x.fs.map Prod.snd) with
    | some vs => .er ⟨x.cls, (x.fs.map Prod.fst).zip vs⟩ s
    | none => .no
  | _ => .no
def mCallP (f : Mf) (m : Mo (List D)) : Mo AI := fun s => (m s).bind fun ds s1 => if D.noIdL ds = true then (match f ds [] with
  | .er _ _ => .no
  | r => pureR r s1) else .no
def mCallPS (f : Mf) (m : Mo (List D)) : Mo AI := fun s => (m s).bind fun ds s1 => if D.noIdL ds = true then pureR (f ds []) s1 else .no
theorem pure_in (r : Rel K ct H0 S s σ H) : Rel K ct H ⟨S.G, S.α, fun _ => none⟩ ⟨[], []⟩ [] H := ⟨r.sub, (fun a l e => nomatch e), fun _ e => e, rfl, (fun i e q => by simp at q), (fun k c q => by simp at q)⟩
end
/-- what a pure call tells -/
def Pf (P : AI → Prop) (E : Exn → Prop) : Fr → Prop
  | .ok (.val d) M' => ∃ d', rsv 9 M' d = some d' ∧ P (.val d')
  | .ok (.new (.lst l)) M' => ∃ l', mapO (rsv 9 M') l = some l' ∧ P (.new (.lst l'))
  | .er x M' => ∃ vs, mapO (rsv 9 M') (x.fs.map Prod.snd) = some vs ∧ E ⟨x.cls, (x.fs.map Prod.fst).zip vs⟩
  | _ => False
section
variable {s : Stt} {X : Exn → Stt → Prop} {QA : AI → Stt → Prop} {f : Mf} {ma : Mo (List D)}
theorem w_pureR {r : Fr} (h : Pf (fun a => QA a s) (fun x => X x s) r) : Wo QA X (pureR r s) := by
  unfold pureR
  cases r with
  | no => exact h.elim
  | er x M' => obtain ⟨vs, e, h⟩ := h; simp only []; rw [e]; exact h
  | ok a M' =>
    cases a with
    | val d => obtain ⟨vs, e, h⟩ := h; simp only []; rw [e]; exact h
    | slot j => exact h.elim
    | new c =>
      cases c with
      | lst l => obtain ⟨vs, e, h⟩ := h; simp only []; rw [e]; exact h
      | _ => exact h.elim
theorem w_callP (h : Wo (fun ds s1 => D.noIdL ds = true ∧ Pf (fun a => QA a s1) (fun _ => False) (f ds [])) X (ma s)) : Wo QA X (mCallP f ma s) := w_bind (w_mono h fun ds s1 ⟨e, h⟩ => by
  show Wo QA X (if D.noIdL ds = true then _ else _)
  rw [if_pos e]
  generalize f ds [] = r at h ⊢
  cases r with
  | no => exact h.elim
  | er x M' => obtain ⟨_, _, h⟩ := h; exact h.elim
  | ok a M' => exact w_pureR (show Pf (fun a => QA a s1) (fun x => X x s1) (.ok a M') from by
      cases a with
      | val d => exact h
      | slot j => exact h.elim
      | new c =>
        cases c with
        | lst l => exact h
        | _ => exact h.elim))
theorem w_callPS (h : Wo (fun ds s1 => D.noIdL ds = true ∧ Pf (fun a => QA a s1) (fun x => X x s1) (f ds [])) X (ma s)) : Wo QA X (mCallPS f ma s) := w_bind (w_mono h fun ds s1 ⟨e, h⟩ => by
  show Wo QA X (if D.noIdL ds = true then _ else _)
  rw [if_pos e]
  exact w_pureR h)
theorem rsv_int (f : Nat) (M : List Cn) (i : Int) : rsv (f + 1) M (.int i) = some (.int i) := rfl
theorem rsv_ints (f : Nat) (M : List Cn) (ns : List Int) : mapO (rsv (f + 1) M) (ns.map D.int) = some (ns.map D.int) := mapO_map (fun i => rsv_int f M i) ns
theorem rsv_lints (f : Nat) (M : List Cn) (ns : List Int) : rsv (f + 2) M (.lst (ns.map D.int)) = some (.lst (ns.map D.int)) := by
  show (mapO (rsv (f + 1) M) (ns.map D.int)).map D.lst = _
  rw [rsv_ints]; rfl
theorem rsv_cints {f : Nat} {M : List Cn} {k : Nat} {ns : List Int} (h : M[k]? = some (.lst (ns.map D.int))) : rsv (f + 2) M (.cid k) = some (.lst (ns.map D.int)) := by
  unfold rsv
  rw [h]
  show (mapO (rsv (f + 1) M) (ns.map D.int)).map D.lst = _
  rw [rsv_ints]; rfl
end
end Y
namespace Y
open PySem L2 Z
theorem viewL_cid {s : Stt} {k : Nat} {l : List D} (h : s.M[k]? = some (.lst l)) : viewL s (.val (.cid k)) = some l := by
  show s.M[k]?.bind Cn.aL = some l; rw [h]; rfl
theorem viewD_cid {s : Stt} {k : Nat} {l : List D} (h : s.M[k]? = some (.lst l)) : viewD s (.val (.cid k)) = none := by
  show s.M[k]?.bind Cn.aK = none; rw [h]; rfl
theorem lenD_cid {M : List Cn} {k : Nat} {l : List D} (h : M[k]? = some (.lst l)) : lenD M (.cid k) = some l.length := by
  show M[k]?.bind _ = _; rw [h]; rfl
theorem w_lenC {QA : AI → Stt → Prop} {X : Exn → Stt → Prop} {env : List (Option Ent)} {M : List Cn} {k : Nat} {l : List D} (h : M[k]? = some (.lst l)) (q : QA (.val (.int (l.length : Int))) ⟨env, M⟩) : Wo QA X (fLen ⟨env, M⟩ [.val (.cid k)]) := w_len (d := .cid k) rfl (lenD_cid h) q
section
variable {K : PySem.W.Frag} {ct : Ct} {H0 : Hp} {W : WX}
def fSlT (s : Stt) (a : AI) (lo hi : Option Int) : Ro AI := match viewT s a with
  | some l => if HT.sIx l.length 0 lo = 0 ∧ HT.sIx l.length l.length hi = l.length then .no else .ok (.val (.tup (cutL l lo hi))) s
  | none => .no
def mSlT (m : Mo AI) (ml mh : Mo (Option Int)) : Mo AI := fun s => (m s).bind fun a s1 => (ml s1).bind fun l s2 => (mh s2).bind fun h s3 => fSlT s3 a l h
variable {s : Stt} {X : Exn → Stt → Prop} {QA : AI → Stt → Prop} {m : Mo AI}
theorem w_slTp {ml mh : Mo (Option Int)} (h : Wo (fun a s1 => Wo (fun l s2 => Wo (fun u s3 => Wo QA X (fSlT s3 a l u)) X (mh s2)) X (ml s1)) X (m s)) : Wo QA X (mSlT m ml mh s) := w_bind (w_mono h fun _ _ h => w_bind (w_mono h fun _ _ h => w_bind h))
theorem w_slTu {a : AI} {l : List D} {lo hi : Option Int} (e : viewT s a = some l) (c : ¬ (HT.sIx l.length 0 lo = 0 ∧ HT.sIx l.length l.length hi = l.length)) (h : QA (.val (.tup (cutL l lo hi))) s) : Wo QA X (fSlT s a lo hi) := by
  unfold fSlT; rw [e]; simp only []; rw [if_neg c]; exact h
end
end Y
namespace Y
open PySem L2 Z
def Lay (k : Nat) (x : PyData) : Prop := x.canLay0 = true ∧ x.depth ≤ k
theorem lay_int {i : Int} : Lay 1 (.int i) := ⟨rfl, by simp [PyData.depth]⟩
theorem lay_none : Lay 1 .none := ⟨rfl, by simp [PyData.depth]⟩
theorem Lay.mono {k m : Nat} {x : PyData} (h : Lay k x) (hk : k ≤ m) : Lay m x := ⟨h.1, Nat.le_trans h.2 hk⟩
theorem lay_all {k : Nat} : ∀ {l : List PyData}, (∀ x ∈ l, Lay k x) → PyData.canLayAll0 l = true ∧ PyData.depthAll l ≤ k
  | [], _ => ⟨rfl, Nat.zero_le _⟩
  | x :: l, h => by
    obtain ⟨h1, h2⟩ := lay_all (l := l) (fun y hy => h y (List.mem_cons_of_mem _ hy))
    obtain ⟨h3, h4⟩ := h x List.mem_cons_self
    refine ⟨?_, ?_⟩
    · show (x.canLay0 && PyData.canLayAll0 l) = true; rw [h3, h1]; rfl
    · show max x.depth (PyData.depthAll l) ≤ k; omega
theorem lay_tup {k : Nat} {l : List PyData} (h : ∀ x ∈ l, Lay k x) : Lay (k + 1) (.tuple l) := by
  obtain ⟨h1, h2⟩ := lay_all h
  exact ⟨h1, by show PyData.depthAll l + 1 ≤ k + 1; omega⟩
theorem lay_lst {k : Nat} {l : List PyData} (h : ∀ x ∈ l, Lay k x) : Lay (k + 1) (.list l) := by
  obtain ⟨h1, h2⟩ := lay_all h
  exact ⟨h1, by show PyData.depthAll l + 1 ≤ k + 1; omega⟩
theorem lay_lints (ns : List Int) : Lay 2 (.list (ns.map PyData.int)) := lay_lst fun x hx => by
  obtain ⟨i, _, rfl⟩ := List.mem_map.mp hx
  exact lay_int
theorem Lay.shaped {k : Nat} {x : PyData} (h : Lay k x) (hk : k ≤ 64) : SeqAt.shaped x = true := by
  unfold SeqAt.shaped
  rw [h.1, decide_eq_true (Nat.le_trans h.2 hk)]; rfl
theorem rsv_tints (f : Nat) (M : List Cn) (l : List D) (l' : List D) (h : mapO (rsv f M) l = some l') : rsv (f + 1) M (.tup l) = some (.tup l') := by
  show (mapO (rsv f M) l).map D.tup = _
  rw [h]; rfl
end Y
namespace Y
open PySem L2 Z
section
variable {N : Stt → Prop} {O : Rs → Prop} {s : Stt} {a b : Ms}
theorem w_chk (h : Ws (fun s1 => s1 = s) O (a s)) (k : Ws N O (b s)) : Ws N O (mSeq a b s) := w_join (fun s1 => s1 = s) h (fun s1 e => by subst e; exact k)
/-- one name may be another value behind -/
theorem w_set1 (i : Nat) (P : D → Prop) (h : Ws (fun s1 => ∃ d, P d ∧ s1 = ⟨s.env.set i (some (.fz d)), s.M⟩) O (a s)) (k : ∀ d, P d → Ws N O (b ⟨s.env.set i (some (.fz d)), s.M⟩)) : Ws N O (mSeq a b s) := w_join (fun s1 => ∃ d, P d ∧ s1 = ⟨s.env.set i (some (.fz d)), s.M⟩) h (fun s1 ⟨d, p, e⟩ => by subst e; exact k d p)
theorem noid_and {ds : List D} {P : Prop} (h : D.noIdL ds = true) (p : P) : D.noIdL ds = true ∧ P := ⟨h, p⟩
end
end Y
namespace Y
open PySem L2 Z
section
variable {K : PySem.W.Frag} {ct : Ct} {H0 : Hp} {W : WX} {S : Sh} {s : Stt} {σ : St} {H : Hp}
def vConsK (m : Mo AI) (r : Mo (List D)) : Mo (List D) := fun s => (mK m s).bind fun a s1 => (r s1).bind fun as s2 => .ok (a :: as) s2
theorem ev_consK {ta : TE} {tr : TA} {m : Mo AI} {r : Mo (List D)} (h1 : Ei K ct H0 W ta m) (h2 : EvL K ct H0 W tr r) : EvL K ct H0 W (tCons ta tr) (vConsK m r) := fun S s σ H Q rel p =>
  ek_of h1 S s σ H _ rel (Pst.bind bVL p fun S1 s1 H1 x a st1 rel1 i1 p1 => h2 S1 s1 σ H1 _ rel1 (Pst.bind bVL p1 fun S2 s2 H2 xs as st2 rel2 i2 p2 => p2 S2 _ H2 .refl rel2 (.cons (Rp.step st2 i1) i2)))
theorem rsv_live {β : Nat → Addr} (r : Rel K ct H0 S s σ H) : ∀ (f : Nat) {v : V} {d d' : D}, Rp K (U ct.lk H) S.α s.M.length v d → rsv f s.M d = some d' → Rp K (U ct.lk H) β 0 v d'
  | 0, _, _, _, _, e => by cases e
  | f + 1, v, d, d', h, e => by
    have all : ∀ {l l' : List D} {vs : List V}, RpL K (U ct.lk H) S.α s.M.length vs l → mapO (rsv f s.M) l = some l' → RpL K (U ct.lk H) β 0 vs l' := by
      intro l
      induction l with
      | nil => intro l' vs h e; cases e; cases h; exact .nil
      | cons d l ih =>
        intro l' vs h e
        obtain ⟨d', e1, e2⟩ := Option.bind_eq_some_iff.mp (show (rsv f s.M d).bind (fun d' => (mapO (rsv f s.M) l).map (d' :: ·)) = _ from e)
        obtain ⟨r', e3, rfl⟩ := Option.map_eq_some_iff.mp e2
        cases h with
        | cons h hr => exact .cons (rsv_live r f h e1) (ih hr e3)
    cases h with
    | non => cases e; exact .non
    | bl b => cases e; exact .bl b
    | int b => cases e; exact .int b
    | str b => cases e; exact .str b
    | ty b => cases e; exact .ty b
    | tup h1 h2 => obtain ⟨l', e1, rfl⟩ := Option.map_eq_some_iff.mp e; exact .tup h1 (all h2 e1)
    | ctp h1 h2 => obtain ⟨l', e1, rfl⟩ := Option.map_eq_some_iff.mp e; exact .ctp h1 (all h2 e1)
    | lst h1 h2 => obtain ⟨l', e1, rfl⟩ := Option.map_eq_some_iff.mp e; exact .lst h1 (all h2 e1)
    | clst h1 h2 => obtain ⟨l', e1, rfl⟩ := Option.map_eq_some_iff.mp e; exact .clst h1 (all h2 e1)
    | dK h1 h3 h2 =>
      obtain ⟨l', e1, rfl⟩ := Option.map_eq_some_iff.mp e
      have z := zip_fst (ks := _) (vs := l') (show l'.length = (List.map Prod.fst _).length by rw [mapO_len e1, List.length_map, List.length_map])
      exact .dK h1 (by rw [z.1]; exact h3) (by rw [z.2]; exact all h2 e1)
    | dT h1 h3 h2 =>
      obtain ⟨l', e1, rfl⟩ := Option.map_eq_some_iff.mp e
      have z := zip_fst (ks := _) (vs := l') (show l'.length = (List.map Prod.fst _).length by rw [mapO_len e1, List.length_map, List.length_map])
      exact .dT h1 (by rw [z.1]; exact h3) (by rw [z.2]; exact all h2 e1)
    | cid hk =>
      rename_i k
      have up : ∀ {vs : List V} {l : List D}, RpL K S.G S.α s.M.length vs l → RpL K (U ct.lk H) S.α s.M.length vs l := fun h => h.mono r.sub (fun _ _ => rfl) (Nat.le_refl _)
      unfold rsv at e
      split at e
      · rename_i l q
        obtain ⟨l', e1, rfl⟩ := Option.map_eq_some_iff.mp e
        obtain ⟨i1, vs, i2, i3⟩ := r.ids k _ q
        exact .lst (uL i2) (all (up i3) e1)
      · rename_i l q
        obtain ⟨l', e1, rfl⟩ := Option.map_eq_some_iff.mp e
        obtain ⟨i1, vs, i2, i3, i4⟩ := r.ids k _ q
        have z := zip_fst (ks := _) (vs := l') (show l'.length = (List.map Prod.fst _).length by rw [mapO_len e1, List.length_map, List.length_map])
        exact .dK (uK i2) (by rw [z.1]; exact i3) (by rw [z.2]; exact all (up i4) e1)
      · rename_i l q
        obtain ⟨l', e1, rfl⟩ := Option.map_eq_some_iff.mp e
        obtain ⟨i1, vs, i2, i3, i4⟩ := r.ids k _ q
        have z := zip_fst (ks := _) (vs := l') (show l'.length = (List.map Prod.fst _).length by rw [mapO_len e1, List.length_map, List.length_map])
        exact .dT (uT i2) (by rw [z.1]; exact i3) (by rw [z.2]; exact all (up i4) e1)
      · cases e
def pyR (s : Stt) (a : AI) : Option PyData := ((look s a).bind (rsv 9 s.M)).bind D.py
theorem pyR_ok {Hs : Hp} {v : V} {a : AI} {x : PyData} (rel : Rel K ct H0 S s σ H) (i : ItOk K ct Hs S s σ H v a) (e : pyR s a = some x) : Dp K H v x := by
  obtain ⟨d', e1, e2⟩ := Option.bind_eq_some_iff.mp e
  obtain ⟨d, e3, e4⟩ := Option.bind_eq_some_iff.mp e1
  exact uDp (rp_dp (rsv_live (β := S.α) rel 9 (look_ok rel i e3) e4) e2)
def eqR (s : Stt) (a b : AI) : Option Bool := (pyR s a).bind fun x => (pyR s b).bind fun y => if SeqAt.shaped x && SeqAt.shaped y then some (x.eqv y) else none
def fNeR : Stt → AI → AI → Ro AI := fun s a b => match eqR s a b with
  | some k => .ok (.val (.bl (!k))) s
  | none => .no
theorem eqR_ok {Hs Hs' : Hp} {v w : V} {a b : AI} {k : Bool} (rel : Rel K ct H0 S s σ H) (i : ItOk K ct Hs S s σ H v a) (j : ItOk K ct Hs' S s σ H w b) (e : eqR s a b = some k) :
    ∃ x y, Dp K H v x ∧ Dp K H w y ∧ SeqAt.shaped x = true ∧ SeqAt.shaped y = true ∧ x.eqv y = k := by
  obtain ⟨x, e1, e⟩ := Option.bind_eq_some_iff.mp e
  obtain ⟨y, e2, e⟩ := Option.bind_eq_some_iff.mp e
  split at e
  · rename_i h
    rw [Bool.and_eq_true] at h
    cases e
    exact ⟨x, y, pyR_ok rel i e1, pyR_ok rel j e2, h.1, h.2, rfl⟩
  · cases e
theorem j_neR : J2 K ct H0 (rNeZ K) fNeR := fun W S s σ H Hs Hs' x y a b Q rel ia ib p => by
  unfold fNeR at p
  split at p
  · rename_i k e
    obtain ⟨d, f, h1, h2, h3, h4, rfl⟩ := eqR_ok rel ia ib e
    exact .inr ⟨d, f, h1, h2, h3, h4, p.val rel (.bl _)⟩
  · exact False.elim p
end
mutual
def shD (n : Nat) : D → D
  | .tup l => .tup (shL n l)
  | .ctp l => .ctp (shL n l)
  | .lst l => .lst (shL n l)
  | .clst l => .clst (shL n l)
  | .dK l => .dK (shK n l)
  | .dT l => .dT (shT n l)
  | .cid k => .cid (n + k)
  | d => d
def shL (n : Nat) : List D → List D
  | [] => []
  | d :: l => shD n d :: shL n l
def shK (n : Nat) : List (Key × D) → List (Key × D)
  | [] => []
  | (k, d) :: l => (k, shD n d) :: shK n l
def shT (n : Nat) : List (List Key × D) → List (List Key × D)
  | [] => []
  | (k, d) :: l => (k, shD n d) :: shT n l
end
def shF (n : Nat) : List (Str × D) → List (Str × D)
  | [] => []
  | (k, d) :: l => (k, shD n d) :: shF n l
def shC (n : Nat) : Cn → Cn
  | .lst l => .lst (shL n l)
  | .dK l => .dK (shK n l)
  | .dT l => .dT (shT n l)
  | .obj c fs => .obj c (shF n fs)
theorem shK_k (n : Nat) : ∀ l : List (Key × D), (shK n l).map Prod.fst = l.map Prod.fst ∧ (shK n l).map Prod.snd = shL n (l.map Prod.snd)
  | [] => ⟨rfl, rfl⟩
  | (k, d) :: l => by obtain ⟨h1, h2⟩ := shK_k n l; exact ⟨by show k :: (shK n l).map Prod.fst = _; rw [h1]; rfl, by show shD n d :: (shK n l).map Prod.snd = _; rw [h2]; rfl⟩
theorem shT_k (n : Nat) : ∀ l : List (List Key × D), (shT n l).map Prod.fst = l.map Prod.fst ∧ (shT n l).map Prod.snd = shL n (l.map Prod.snd)
  | [] => ⟨rfl, rfl⟩
  | (k, d) :: l => by obtain ⟨h1, h2⟩ := shT_k n l; exact ⟨by show k :: (shT n l).map Prod.fst = _; rw [h1]; rfl, by show shD n d :: (shT n l).map Prod.snd = _; rw [h2]; rfl⟩
theorem shF_k (n : Nat) : ∀ l : List (Str × D), (shF n l).map Prod.fst = l.map Prod.fst ∧ (shF n l).map Prod.snd = shL n (l.map Prod.snd)
  | [] => ⟨rfl, rfl⟩
  | (k, d) :: l => by obtain ⟨h1, h2⟩ := shF_k n l; exact ⟨by show k :: (shF n l).map Prod.fst = _; rw [h1]; rfl, by show shD n d :: (shF n l).map Prod.snd = _; rw [h2]; rfl⟩
section
variable {K : PySem.W.Frag} {ct : Ct} {H0 : Hp} {W : WX} {S : Sh} {s : Stt} {σ : St} {H : Hp} {G : Hp} {α β : Nat → Addr} {n n' : Nat}
mutual
theorem Rp.shift (hb : ∀ k, k < n' → β (n + k) = α k) : ∀ {v : V} {d : D}, Rp K G α n' v d → Rp K G β (n + n') v (shD n d)
  | _, _, .non => .non
  | _, _, .bl b => .bl b
  | _, _, .int i => .int i
  | _, _, .str x => .str x
  | _, _, .ty x => .ty x
  | _, _, .tup h r => .tup h (RpL.shift hb r)
  | _, _, .ctp h r => .ctp h (RpL.shift hb r)
  | _, _, .lst h r => .lst h (RpL.shift hb r)
  | _, _, .clst h r => .clst h (RpL.shift hb r)
  | _, _, .dK (l := l) h e r => .dK h (by rw [(shK_k n l).1]; exact e) (by rw [(shK_k n l).2]; exact RpL.shift hb r)
  | _, _, .dT (l := l) h e r => .dT h (by rw [(shT_k n l).1]; exact e) (by rw [(shT_k n l).2]; exact RpL.shift hb r)
  | _, _, .cid (k := k) h => by
    have e := hb k h
    rw [← e]
    exact .cid (by omega)
theorem RpL.shift (hb : ∀ k, k < n' → β (n + k) = α k) : ∀ {vs : List V} {l : List D}, RpL K G α n' vs l → RpL K G β (n + n') vs (shL n l)
  | _, _, .nil => .nil
  | _, _, .cons h r => .cons (Rp.shift hb h) (RpL.shift hb r)
end
def Sh.join (S S' : Sh) (n : Nat) : Sh := ⟨S'.G, fun k => if k < n then S.α k else S'.α (k - n), fun a => match S.lab a with
  | some l => some l
  | none => match S'.lab a with
    | some (.id k) => some (.id (n + k))
    | _ => none⟩
theorem join_back {S' : Sh} {M' : List Cn} {H' : Hp} (r : Rel K ct H0 S s σ H) (st : Stp ⟨S.G, S.α, fun _ => none⟩ 0 H S' M'.length H') (r' : Rel K ct H S' ⟨[], M'⟩ [] H') :
    Rel K ct H0 (S.join S' s.M.length) ⟨s.env, s.M ++ M'.map (shC s.M.length)⟩ σ H' ∧ Stp S s.M.length H (S.join S' s.M.length) (s.M ++ M'.map (shC s.M.length)).length H' := by
  have k : ∀ a o, H a = some o → H' a = some o ∧ S'.lab a = none := fun a o e => st.fr a o e rfl
  have hlen : (s.M ++ M'.map (shC s.M.length)).length = s.M.length + M'.length := by rw [List.length_append, List.length_map]
  have al : ∀ i, i < s.M.length → (S.join S' s.M.length).α i = S.α i := fun i hi => if_pos hi
  have al2 : ∀ i, i < M'.length → (S.join S' s.M.length).α (s.M.length + i) = S'.α i := fun i _ => by
    show (if s.M.length + i < s.M.length then _ else _) = _
    rw [if_neg (by omega), show s.M.length + i - s.M.length = i by omega]
  have gno : ∀ a o, H a = some o → S.G a = none → S'.G a = none := fun a o e e2 => by
    cases q : S'.G a with
    | none => rfl
    | some u =>
      rcases st.gn a u q with z | z | ⟨l, z⟩
      · have z : S.G a = some u := z; rw [e2] at z; cases z
      · rw [e] at z; cases z
      · cases z
  have cnOld : ∀ {p : Addr} {c : Cn}, CnOk K ct S s.M.length H p c → CnOk K ct (S.join S' s.M.length) (s.M ++ M'.map (shC s.M.length)).length H' p c := fun {p c} h => h.mono st.g al (by omega) (fun o e => (k p o e).1)
  refine ⟨⟨r'.sub, fun a l q => ?_, fun a e => r.dom a (st.dom a e), r.len, fun i e q => ?_, fun i c q => ?_⟩, ⟨st.g, by omega, al, fun a o e l => ?_, fun a o e => ?_, st.dom⟩⟩
  · have q : (match S.lab a with | some l => some l | none => match S'.lab a with | some (.id k) => some (.id (s.M.length + k)) | _ => none) = some l := q
    split at q
    · rename_i l' ql
      obtain ⟨h1, o, h2⟩ := r.lg a _ ql
      exact ⟨gno a o h2 h1, o, (k a o h2).1⟩
    · split at q
      · rename_i j ql
        exact r'.lg a _ ql
      · cases q
  · have hh := r.slot i e q
    cases e with
    | fz d => obtain ⟨v, h1, h2⟩ := hh; exact ⟨v, h1, h2.mono st.g al (by show s.M.length ≤ (s.M ++ M'.map (shC s.M.length)).length; omega)⟩
    | xn x => exact xn_mono (S := S) (n := s.M.length) (H := H) st.g al (by show s.M.length ≤ (s.M ++ M'.map (shC s.M.length)).length; omega) rfl hh
    | ow c =>
      obtain ⟨p, h1, h2, h3, h4, h5⟩ := hh
      refine ⟨p, h1, h2, ?_, h4, cnOld h5⟩
      show (match S.lab p with | some l => some l | none => _) = _
      rw [h3]
  · by_cases hi : i < s.M.length
    · have q : (s.M ++ M'.map (shC s.M.length))[i]? = some c := q
      rw [List.getElem?_append_left hi] at q
      obtain ⟨h1, h2⟩ := r.ids i c q
      have ha := al i hi
      refine ⟨?_, by rw [ha]; exact cnOld h2⟩
      rw [ha]
      show (match S.lab (S.α i) with | some l => some l | none => _) = _
      rw [h1]
    · have q : (s.M ++ M'.map (shC s.M.length))[i]? = some c := q
      rw [List.getElem?_append_right (by omega), List.getElem?_map] at q
      obtain ⟨c', q', rfl⟩ := Option.map_eq_some_iff.mp q
      have q := q'
      have hj : i - s.M.length < M'.length := (List.getElem?_eq_some_iff.mp q).1
      obtain ⟨h1, h2⟩ := r'.ids _ _ q
      have ha : (S.join S' s.M.length).α i = S'.α (i - s.M.length) := if_neg hi
      have hn : S.lab (S'.α (i - s.M.length)) = none := by
        refine r.labN ?_
        cases q2 : H (S'.α (i - s.M.length)) with
        | none => rfl
        | some u => have := (k _ u q2).2; rw [h1] at this; cases this
      rw [ha]
      refine ⟨?_, ?_⟩
      · show (match S.lab (S'.α (i - s.M.length)) with | some l => some l | none => match S'.lab (S'.α (i - s.M.length)) with | some (.id k) => some (.id (s.M.length + k)) | _ => none) = _
        rw [hn, h1]
        simp only []
        congr 2
        omega
      · rw [hlen]
        cases c' with
        | lst l => obtain ⟨vs, g1, g2⟩ := h2; exact ⟨vs, g1, RpL.shift al2 g2⟩
        | dK l => obtain ⟨vs, g1, g3, g2⟩ := h2; exact ⟨vs, g1, by rw [(shK_k _ l).1]; exact g3, by rw [(shK_k _ l).2]; exact RpL.shift al2 g2⟩
        | dT l => obtain ⟨vs, g1, g3, g2⟩ := h2; exact ⟨vs, g1, by rw [(shT_k _ l).1]; exact g3, by rw [(shT_k _ l).2]; exact RpL.shift al2 g2⟩
        | obj c fs => obtain ⟨dx, vs, g1, g3, g2⟩ := h2; exact ⟨dx, vs, g1, by rw [(shF_k _ fs).1]; exact g3, by rw [(shF_k _ fs).2]; exact RpL.shift al2 g2⟩
  · refine ⟨(k a o e).1, ?_⟩
    show (match S.lab a with | some l => some l | none => match S'.lab a with | some (.id k) => some (.id (s.M.length + k)) | _ => none) = none
    rw [l, (k a o e).2]
  · rcases st.gn a o e with z | z | ⟨l, z⟩
    · exact .inl z
    · exact .inr (.inl z)
    · cases z
def takeR (r : Fr) (s : Stt) : Ro AI := match r with
  | .ok (.val d) M' => .ok (.val (shD s.M.length d)) ⟨s.env, s.M ++ M'.map (shC s.M.length)⟩
  | .ok (.new c) M' => .ok (.new (shC s.M.length c)) ⟨s.env, s.M ++ M'.map (shC s.M.length)⟩
  | .er x M' => .er ⟨x.cls, shF s.M.length x.fs⟩ ⟨s.env, s.M ++ M'.map (shC s.M.length)⟩
  | _ => .no
def mCallT (f : Mf) (m : Mo (List D)) : Mo AI := fun s => (m s).bind fun ds s1 => if D.noIdL ds = true then (match f ds [] with
  | .er _ _ => .no
  | r => takeR r s1) else .no
def mCallTS (f : Mf) (m : Mo (List D)) : Mo AI := fun s => (m s).bind fun ds s1 => if D.noIdL ds = true then takeR (f ds []) s1 else .no
theorem shC_isC (n : Nat) (c : Cn) : (shC n c).isC = c.isC := by cases c <;> rfl
theorem take_ok' {Q : VK} {r : Fr} {a : AI} {M' : List Cn} (er : r = .ok a M') (rel : Rel K ct H0 S s σ H) (p : Pst K ct H0 (RI K ct) W S s σ H Q (takeR r s)) {S' : Sh} {v : V} {H' : Hp} (st : Stp ⟨S.G, S.α, fun _ => none⟩ 0 H S' M'.length H') (r' : Rel K ct H S' ⟨[], M'⟩ [] H') (it : ItOk K ct H S' ⟨[], M'⟩ [] H' v a) : Q v H' := by
  obtain ⟨b1, b2⟩ := join_back rel st r'
  have hlen : (s.M ++ M'.map (shC s.M.length)).length = s.M.length + M'.length := by rw [List.length_append, List.length_map]
  have al2 : ∀ i, i < M'.length → (S.join S' s.M.length).α (s.M.length + i) = S'.α i := fun i _ => by
    show (if s.M.length + i < s.M.length then _ else _) = _
    rw [if_neg (by omega), show s.M.length + i - s.M.length = i by omega]
  subst er
  cases a with
  | slot j => simp [ItOk] at it
  | val d =>
    refine p _ v H' b2 b1 ?_
    show Rp K _ _ (s.M ++ M'.map (shC s.M.length)).length v _
    rw [hlen]
    exact Rp.shift al2 it
  | new c =>
    obtain ⟨q, rfl, h1, h2, h3, h4, h5⟩ := it
    refine p _ _ H' b2 b1 ⟨q, rfl, h1, ?_, h3, by rw [shC_isC]; exact h4, ?_⟩
    · show (match S.lab q with | some l => some l | none => match S'.lab q with | some (.id k) => some (.id (s.M.length + k)) | _ => none) = none
      rw [rel.labN h1, h2]
    · show CnOk K ct _ (s.M ++ M'.map (shC s.M.length)).length H' q _
      rw [hlen]
      cases c with
      | lst l => obtain ⟨vs, g1, g2⟩ := h5; exact ⟨vs, g1, RpL.shift al2 g2⟩
      | dK l => obtain ⟨vs, g1, g3, g2⟩ := h5; exact ⟨vs, g1, by rw [(shK_k _ l).1]; exact g3, by rw [(shK_k _ l).2]; exact RpL.shift al2 g2⟩
      | dT l => obtain ⟨vs, g1, g3, g2⟩ := h5; exact ⟨vs, g1, by rw [(shT_k _ l).1]; exact g3, by rw [(shT_k _ l).2]; exact RpL.shift al2 g2⟩
      | obj c fs => obtain ⟨dx, vs, g1, g3, g2⟩ := h5; exact ⟨dx, vs, g1, by rw [(shF_k _ fs).1]; exact g3, by rw [(shF_k _ fs).2]; exact RpL.shift al2 g2⟩
theorem ei_callT {f : Mf} {E : XK} {t : TA} {m : Mo (List D)} (h : EvL K ct H0 W t m) : Ei K ct H0 W (tCallZ (spM K ct f) E t) (mCallT f m) := fun S s σ H Q rel p =>
  h S s σ H _ rel (Pst.bind bI p fun S1 s1 H1 vs ds st1 rel1 i1 p1 => by
    split at p1
    · rename_i hn
      refine ⟨_, [], ds, pure_in rel1, RpL.noId i1 hn, ?_⟩
      generalize hf : f ds [] = r at p1
      cases r with
      | no => exact False.elim p1
      | er x M' => exact False.elim p1
      | ok a M' => intro S' v H' st r' it; exact take_ok' (r := .ok a M') rfl rel1 p1 st r' it
    · exact False.elim p1)
end
/-- what a call tells whose cells are taken over -/
def Tf (n : Nat) (P : AI → List Cn → Prop) (E : Exn → List Cn → Prop) : Fr → Prop
  | .ok (.val d) M' => P (.val (shD n d)) (M'.map (shC n))
  | .ok (.new c) M' => P (.new (shC n c)) (M'.map (shC n))
  | .er x M' => E ⟨x.cls, shF n x.fs⟩ (M'.map (shC n))
  | _ => False
section
variable {s : Stt} {X : Exn → Stt → Prop} {QA : AI → Stt → Prop} {QV : List D → Stt → Prop} {f : Mf} {ma : Mo (List D)} {m : Mo AI} {r : Mo (List D)}
theorem w_vConsK (h : Wo (fun a s1 => Wo (fun as s2 => QV (a :: as) s2) X (r s1)) X (mK m s)) : Wo QV X (vConsK m r s) := w_bind (w_mono h fun _ _ h => w_bind (w_mono h fun _ _ h => h))
theorem w_takeR {r : Fr} (h : Tf s.M.length (fun a M' => QA a ⟨s.env, s.M ++ M'⟩) (fun x M' => X x ⟨s.env, s.M ++ M'⟩) r) : Wo QA X (takeR r s) := by
  unfold takeR
  cases r with
  | no => exact h.elim
  | er x M' => exact h
  | ok a M' =>
    cases a with
    | val d => exact h
    | slot j => exact h.elim
    | new c => exact h
theorem w_callT (h : Wo (fun ds s1 => D.noIdL ds = true ∧ Tf s1.M.length (fun a M' => QA a ⟨s1.env, s1.M ++ M'⟩) (fun _ _ => False) (f ds [])) X (ma s)) : Wo QA X (mCallT f ma s) := w_bind (w_mono h fun ds s1 ⟨e, h⟩ => by
  show Wo QA X (if D.noIdL ds = true then _ else _)
  rw [if_pos e]
  generalize f ds [] = r at h ⊢
  cases r with
  | no => exact h.elim
  | er x M' => exact h.elim
  | ok a M' => exact w_takeR (show Tf s1.M.length (fun a M' => QA a ⟨s1.env, s1.M ++ M'⟩) (fun x M' => X x ⟨s1.env, s1.M ++ M'⟩) (.ok a M') from by
      cases a with
      | val d => exact h
      | slot j => exact h.elim
      | new c => exact h))
theorem w_callTS (h : Wo (fun ds s1 => D.noIdL ds = true ∧ Tf s1.M.length (fun a M' => QA a ⟨s1.env, s1.M ++ M'⟩) (fun x M' => X x ⟨s1.env, s1.M ++ M'⟩) (f ds [])) X (ma s)) : Wo QA X (mCallTS f ma s) := w_bind (w_mono h fun ds s1 ⟨e, h⟩ => by
  show Wo QA X (if D.noIdL ds = true then _ else _)
  rw [if_pos e]
  exact w_takeR h)
theorem tf_fo {n : Nat} {P : AI → List Cn → Prop} {E : Exn → List Cn → Prop} {r : Fr} (h : Fo (fun a M' => Tf n P E (.ok a M')) r) : Tf n P E r := by
  cases r with
  | no => exact h.elim
  | er x M' => exact h.elim
  | ok a M' => exact h
theorem w_neR {a b : AI} {k : Bool} (e : eqR s a b = some k) (h : QA (.val (.bl (!k))) s) : Wo QA X (fNeR s a b) := by unfold fNeR; rw [e]; exact h
theorem eqR_of {a b : AI} {x y : PyData} {k : Bool} (e1 : pyR s a = some x) (e2 : pyR s b = some y) (h1 : SeqAt.shaped x = true) (h2 : SeqAt.shaped y = true) (e : x.eqv y = k) : eqR s a b = some k := by
  unfold eqR
  rw [e1, Option.bind_some, e2, Option.bind_some, h1, h2, ← e]; rfl
theorem eqR_same {a b : AI} {x : PyData} {k : Nat} (e1 : pyR s a = some x) (e2 : pyR s b = some x) (h : Lay k x) (hk : k ≤ 64) : eqR s a b = some true := eqR_of e1 e2 (h.shaped hk) (h.shaped hk) (eqv_self x h.1)
end
end Y
namespace Y
open PySem L2 Z
end Y
namespace Y
open PySem L2 Z
theorem tf_use {n : Nat} {P P' : AI → List Cn → Prop} {E E' : Exn → List Cn → Prop} {r : Fr} (h : Tf n P E r) (k : ∀ a M, P a M → P' a M) (k2 : ∀ x M, E x M → E' x M) : Tf n P' E' r := by
  cases r with
  | no => exact h.elim
  | er x M' => exact k2 _ _ h
  | ok a M' =>
    cases a with
    | val d => exact k _ _ h
    | slot j => exact h.elim
    | new c => exact k _ _ h
end Y
namespace Y
open PySem L2 Z
theorem w_mI {s : Stt} {X : Exn → Stt → Prop} {QA : AI → Stt → Prop} {m : Mo D} (h : Wo (fun d s1 => QA (.val d) s1) X (m s)) : Wo QA X (mI m s) := w_bind (w_mono h fun _ _ h => h)
end Y
namespace Y
open PySem L2 Z
section
variable {K : PySem.W.Frag} {ct : Ct} {H0 : Hp} {W : WX}
theorem sv_forAt {js : List Nat} {wi : TI} {g : TG} {tb : TS} {mi : Mo Im} {f : Tg} {b : Ms} {S : Sh} {s : Stt} {σ : St} {H : Hp} {Dn : Ends} (hi : ∀ R, Pst K ct H0 (RW K ct H0) W S s σ H R (mi s) → wi σ H R) (hg : Sg K ct H0 js g f) (hb : Sv K ct H0 W tb b) (rel : Rel K ct H0 S s σ H) (p : PstS K ct H0 W S s H Dn (mFor mi f b s)) : tFor wi g tb Dn σ H :=
  hi _ (PstS.bind p fun S1 s1 H1 J im st1 rel1 wk p1 => by
    have p1 := PstS.from p1 st1
    generalize hR : forN f b im.ck im.xs s1 = R at p1
    refine ⟨fun i m σ' H' => m = im.xs.length - i ∧ ∃ S' s', Stp S1 s1.M.length H1 S' s'.M.length H' ∧ Rel K ct H0 S' s' σ' H' ∧ i ≤ im.xs.length ∧ forN f b im.ck (im.xs.drop i) s' = R, ⟨im.xs.length, rfl, S1, s1, .refl, rel1, Nat.zero_le _, hR⟩, ?_⟩
    rintro i m σ' H' ⟨rfl, S', s', st', rel', hi', hr⟩
    have nno : R ≠ .no := fun z => by rw [z] at p1; exact p1
    by_cases hlt : i < im.xs.length
    · have e := List.drop_eq_getElem_cons hlt
      rw [e] at hr
      have hx : im.xs[i]? = some im.xs[i] := List.getElem?_eq_getElem hlt
      generalize im.xs[i] = d at e hr hx
      unfold forN at hr
      have hc : chk im.ck s' := Classical.byContradiction fun z => by rw [if_neg z] at hr; exact nno hr.symm
      rw [if_pos hc] at hr
      obtain ⟨go, yl⟩ := (wk S' s' σ' H' st' rel' hc).1 i d hx
      refine .inr ⟨go, fun σ2 H2 => ∃ S2 s2, Stp S1 s1.M.length H1 S2 s2.M.length H2 ∧ Rel K ct H0 S2 s2 σ2 H2 ∧ forN f b im.ck (im.xs.drop (i + 1)) s2 = R, ?_, ?_⟩
      · rintro σ2 H2 ⟨S2, s2, k1, k2, k3⟩
        exact ⟨im.xs.length - (i + 1), by omega, rfl, S2, s2, k1, k2, hlt, k3⟩
      · intro x H2 hy
        obtain ⟨S2, st2, rel2, rp2⟩ := yl x H2 hy
        cases hs : f d s' with
        | none => rw [hs] at hr; exact absurd hr.symm nno
        | some s2 =>
          rw [hs] at hr
          refine hg S2 s' σ' H2 x d s2 _ rel2 rp2 hs fun S3 σ3 st3 rel3 _ _ _ => ?_
          have stt := (st'.trans st2).trans st3
          refine hb S3 s2 σ3 H2 _ rel3 ?_
          have hr : (match b s2 with | .nx s2 => forN f b im.ck (im.xs.drop (i + 1)) s2 | .ct s2 => forN f b im.ck (im.xs.drop (i + 1)) s2 | .bk s2 => .nx s2 | .rt a s2 => .rt a s2 | .er x s2 => .er x s2 | .no => .no) = R := hr
          cases hbs : b s2 with
          | nx s4 => rw [hbs] at hr; exact fun S4 σ4 H4 st4 rel4 => ⟨S4, s4, stt.trans st4, rel4, hr⟩
          | ct s4 => rw [hbs] at hr; exact fun S4 σ4 H4 st4 rel4 => ⟨S4, s4, stt.trans st4, rel4, hr⟩
          | bk s4 => rw [hbs] at hr; subst hr; exact fun S4 σ4 H4 st4 rel4 => p1 S4 σ4 H4 (stt.trans st4) rel4
          | rt a s4 => rw [hbs] at hr; subst hr; exact fun S4 σ4 v H4 st4 rel4 q => p1 S4 σ4 v H4 (stt.trans st4) rel4 q
          | er x s4 => rw [hbs] at hr; subst hr; exact fun S4 σ4 H4 dd st4 rel4 q => p1 S4 σ4 H4 dd (stt.trans st4) rel4 q
          | no => rw [hbs] at hr; exact absurd hr.symm nno
    · have e : im.xs.drop i = [] := List.drop_eq_nil_of_le (by omega)
      rw [e] at hr
      unfold forN at hr
      have hc : chk im.ck s' := Classical.byContradiction fun z => by rw [if_neg z] at hr; exact nno hr.symm
      rw [if_pos hc] at hr
      have ei : i = im.xs.length := by omega
      subst hr
      refine .inl ⟨?_, p1 S' σ' H' st' rel'⟩
      rw [ei]
      exact (wk S' s' σ' H' st' rel' hc).2)
noncomputable def mForD (kd : KD) (i : Nat) (g : Tg) (b : Ms) : Ms := fun s => match entAt s i with
  | some (.fz (.dK l)) => (match forN g b none (dIt kd l) s with
    | .er _ _ => .no
    | r => r)
  | _ => .no
theorem sv_forD {kd : KD} {i : Nat} {js : List Nat} {g : TG} {tb : TS} {f : Tg} {b : Ms} (hlk : ct.lk = none) (hg : ∀ b, Sg K (ct.lkd b) H0 js g f) (hb : ∀ z, Sv K (ct.lkd z) H0 W0 tb b) : Sv K ct H0 W (tLock (tFor (dI kd i) g tb)) (mForD kd i f b) := fun S s σ H Dn rel p => by
  unfold mForD at p
  split at p
  · rename_i l en
    obtain ⟨v, h1, h2⟩ := rel.slot i _ (entAt_eq en)
    cases h2 with
    | @dK d kvs _ k1 k2 k3 =>
      have rk := RpK.of k2 k3
      obtain ⟨hd, _⟩ := rel.lock (od := default) hlk k1
      have hlab : S.lab d = none := by
        cases q : S.lab d with
        | none => rfl
        | some z => rw [(rel.lg d z q).1] at k1; cases k1
      refine ⟨d, _, hd, trivial, fun od => ?_⟩
      have rl := (rel.lock (od := od) hlk k1).2
      refine sv_forAt (K := K) (ct := ct.lkd (some d)) (H0 := H0) (W := W0) (S := S) (s := s) (mi := fun s => .ok ⟨dIt kd l, none⟩ s) (f := f) (b := b) (fun R q => dI_go h1 upd_same (q S _ _ .refl rl (wk_d upd_same hlab rk))) (hg _) (hb _) rl ?_
      show PstS K (ct.lkd (some d)) H0 W0 S s _ _ (forN f b none (dIt kd l) s)
      generalize forN f b none (dIt kd l) s = R at p
      cases R with
      | no => exact p
      | er x s' => exact False.elim p
      | nx s' =>
        intro S' σ' H' st rel'
        exact ⟨(st.fr d _ upd_same hlab).1, p S' σ' _ (st.lockd hd) (rel'.unlock hlk (st.g _ _ k1))⟩
      | bk s' =>
        intro S' σ' H' st rel'
        exact ⟨(st.fr d _ upd_same hlab).1, p S' σ' _ (st.lockd hd) (rel'.unlock hlk (st.g _ _ k1))⟩
      | ct s' =>
        intro S' σ' H' st rel'
        exact ⟨(st.fr d _ upd_same hlab).1, p S' σ' _ (st.lockd hd) (rel'.unlock hlk (st.g _ _ k1))⟩
      | rt a s' =>
        intro S' σ' v H' st rel' it
        have g' : S'.G d = some (.dK kvs) := st.g _ _ k1
        refine ⟨(st.fr d _ upd_same hlab).1, p S' σ' v _ (st.lockd hd) (rel'.unlock hlk g') ?_⟩
        cases a with
        | val x => exact it
        | slot j => exact it
        | new c' =>
          obtain ⟨pp, rfl, i1, i2, i3, i4, i5⟩ := it
          have ne : pp ≠ d := fun z => by subst z; rw [i3] at g'; cases g'
          exact ⟨pp, rfl, i1, i2, i3, i4, (i5.mono (H' := upd H' d (.dK kvs)) (fun _ _ e => e) (fun _ _ => rfl) (Nat.le_refl _) (fun o e => by rw [upd_ne ne]; exact e)).unlkd⟩
  · exact False.elim p
theorem w_forD {N : Stt → Prop} {O : Rs → Prop} {kd : KD} {i : Nat} {g : Tg} {b : Ms} {l : List (Key × D)} {s : Stt} (e : entAt s i = some (.fz (.dK l))) (h : Ws N (fun r => match r with | .er _ _ => False | r => O r) (forN g b none (dIt kd l) s)) : Ws N O (mForD kd i g b s) := by
  unfold mForD
  rw [e]
  simp only []
  generalize forN g b none (dIt kd l) s = R at h ⊢
  cases R with
  | er x s' => exact h.elim
  | _ => exact h
end
end Y
namespace Y
open PySem L2 Z
section
variable {K : PySem.W.Frag} {ct : Ct} {H0 : Hp} {W : WX}
def mTIdx (ns : List Int) (ma : Mo (List D)) : Mo AI := fun s => (ma s).bind fun ds s1 => match ds with
  | [.int i] => if i ∈ ns then .ok (.val (.int ((ns.idxOf i : Nat) : Int))) s1 else .no
  | _ => .no
theorem w_tidx {s : Stt} {X : Exn → Stt → Prop} {QA : AI → Stt → Prop} {ns : List Int} {ma : Mo (List D)} (h : Wo (fun ds s1 => ∃ i, ds = [.int i] ∧ i ∈ ns ∧ QA (.val (.int ((ns.idxOf i : Nat) : Int))) s1) X (ma s)) : Wo QA X (mTIdx ns ma s) := w_bind (w_mono h fun ds s1 ⟨i, e, hi, h⟩ => by
  subst e
  show Wo QA X (if i ∈ ns then _ else _)
  rw [if_pos hi]; exact h)
end
end Y
namespace Y
open PySem L2 Z
section
variable {K : PySem.W.Frag} {ct : Ct} {H0 : Hp} {W : WX}
noncomputable def mLcO (i : Nat) (ws : List Nat) (g : Tg) (c : Mo Bool) (e : Mo AI) : Mo AI := fun s => match entAt s i with
  | some (.ow (.lst l)) => (mLc ws (fun s => .ok ⟨l, none⟩ s) g c e ⟨s.env.set i none, s.M⟩).bind fun a s1 => .ok a ⟨s1.env.set i (some (.ow (.lst l))), s1.M⟩
  | _ => mLc ws (mWL (mName i)) g c e s
theorem w_lcO {QA : AI → Stt → Prop} {X : Exn → Stt → Prop} {s : Stt} {i : Nat} {ws : List Nat} {g : Tg} {c : Mo Bool} {e : Mo AI} {l : List D} (en : entAt s i = some (.ow (.lst l))) (h : ∃ l2 s2, lcN ws g c (mV e) none l [] (wipeS ws ⟨s.env.set i none, s.M⟩) = .ok l2 s2 ∧ QA (.new (.lst l2)) ⟨(Y.rest (s.env.set i none) s2.env ws).set i (some (.ow (.lst l))), s2.M⟩) : Wo QA X (mLcO i ws g c e s) := by
  unfold mLcO; rw [en]
  refine w_bind (w_lc (QA := fun a s1 => Wo QA X (.ok a ⟨s1.env.set i (some (.ow (.lst l))), s1.M⟩)) (show Wo _ X (Ro.ok (⟨l, none⟩ : Im) _) from h))
end
end Y
namespace Y
open PySem L2 Z
section
variable {K : PySem.W.Frag} {ct : Ct} {H0 : Hp} {W : WX} {S : Sh} {s : Stt} {σ : St} {H : Hp}
noncomputable def mLcG (ws : List Nat) (mi : Mo Im) (g : Tg) (c : Mo Bool) (e : Mo D) : Mo AI := fun s => (mi s).bind fun im s1 => match lcN ws g c e im.ck im.xs [] (wipeS ws s1) with
  | .ok l s2 => .ok (.new (.lst l)) ⟨rest s1.env s2.env ws, s2.M⟩
  | _ => .no
def CLR2 (i j : Int) : Prop := -(2 ^ 62) ≤ i ∧ i < 2 ^ 62 ∧ -(2 ^ 62) ≤ j ∧ j < 2 ^ 62 ∧ (j - i).toNat ≤ sizeLine
open Classical in
noncomputable def mLR2 (m1 m2 : Mo AI) : Mo AI := fun s => (m1 s).bind fun a s1 => (m2 s1).bind fun b s2 => match a, b with
  | .val (.int i), .val (.int j) => if CLR2 i j then .ok (.new (.lst (rng i (j - i).toNat))) s2 else .no
  | _, _ => .no
def kvNil : Mo (List (D × D)) := fun s => .ok [] s
def kvCons (mk mv : Mo AI) (r : Mo (List (D × D))) : Mo (List (D × D)) := fun s => (mV mk s).bind fun a s1 => (mV mv s1).bind fun b s2 => (r s2).bind fun l s3 => .ok ((a, b) :: l) s3
def kvKeys : List (D × D) → Option (List (Key × D))
  | [] => some []
  | (k, d) :: l => (keyOf k).bind fun k' => (kvKeys l).map ((k', d) :: ·)
def mDisp (r : Mo (List (D × D))) : Mo AI := fun s => (r s).bind fun l s1 => match kvKeys l with
  | some kl => if kl.length ≤ 15 then .ok (.new (.dK (mgD kl))) s1 else .no
  | none => .no
def mSetD (mo mi mx : Mo AI) : Mo AI := fun s => (mo s).bind fun a s1 => match viewD s1 a with
  | some _ => (mV mi s1).bind fun i s2 => (mK mx s2).bind fun x s3 => match getC s3 a, keyOf i with
    | some (.dK l), some k => if l.length < sizeLine then (match vl l k with
      | some d => .ok (.val d) s3
      | none => .ok (.val x) (setC s3 a (.dK (pu l k x)))) else .no
    | _, _ => .no
  | none => .no
def tgL (n : Nat) (f : Tgs) : Tg := fun d s => match listOf s.M d with
  | some l => if l.length = n then f l s else none
  | none => none
end
section
variable {s : Stt} {X : Exn → Stt → Prop} {QA : AI → Stt → Prop}
theorem w_lcG {ws : List Nat} {mi : Mo Im} {g : Tg} {c : Mo Bool} {e : Mo D} (h : Wo (fun im s1 => ∃ l s2, lcN ws g c e im.ck im.xs [] (wipeS ws s1) = .ok l s2 ∧ QA (.new (.lst l)) ⟨Y.rest s1.env s2.env ws, s2.M⟩) X (mi s)) : Wo QA X (mLcG ws mi g c e s) := by
  unfold mLcG
  cases q : mi s with
  | no => rw [q] at h; exact h
  | er x s1 => rw [q] at h; exact h
  | ok im s1 =>
    rw [q] at h
    obtain ⟨l, s2, e1, e2⟩ := h
    show Wo QA X (match lcN ws g c e im.ck im.xs [] (wipeS ws s1) with | .ok l s2 => .ok (.new (.lst l)) ⟨rest s1.env s2.env ws, s2.M⟩ | _ => .no)
    rw [e1]; exact e2
theorem w_lr2 {m1 m2 : Mo AI} (h : Wo (fun a s1 => Wo (fun b s2 => ∃ i j : Int, a = .val (.int i) ∧ b = .val (.int j) ∧ (-(2 ^ 62) ≤ i ∧ i < 2 ^ 62 ∧ -(2 ^ 62) ≤ j ∧ j < 2 ^ 62 ∧ (j - i).toNat ≤ sizeLine) ∧ QA (.new (.lst (rng i (j - i).toNat))) s2) X (m2 s1)) X (m1 s)) : Wo QA X (mLR2 m1 m2 s) := by
  refine w_bind (w_mono h fun a s1 h => w_bind (w_mono h fun b s2 h => ?_))
  obtain ⟨i, j, rfl, rfl, c, h⟩ := h
  simp only []
  rw [if_pos (show CLR2 i j from c)]; exact h
theorem w_kvNil {QK : List (D × D) → Stt → Prop} (h : QK [] s) : Wo QK X (kvNil s) := h
theorem w_kvCons {QK : List (D × D) → Stt → Prop} {mk mv : Mo AI} {r : Mo (List (D × D))} (h : Wo (fun a s1 => Wo (fun b s2 => Wo (fun l s3 => QK ((a, b) :: l) s3) X (r s2)) X (mV mv s1)) X (mV mk s)) : Wo QK X (kvCons mk mv r s) :=
  w_bind (w_mono h fun a s1 h => w_bind (w_mono h fun b s2 h => w_bind (w_mono h fun l s3 h => h)))
theorem w_disp {r : Mo (List (D × D))} (h : Wo (fun l s1 => ∃ kl, kvKeys l = some kl ∧ kl.length ≤ 15 ∧ QA (.new (.dK (mgD kl))) s1) X (r s)) : Wo QA X (mDisp r s) := by
  refine w_bind (w_mono h fun l s1 h => ?_)
  obtain ⟨kl, e, c, h⟩ := h
  rw [e]
  show Wo QA X (if _ then _ else _)
  rw [if_pos c]; exact h
theorem w_setD {m1 m2 m3 : Mo AI} (h : Wo (fun a s1 => (∃ l, viewD s1 a = some l) ∧ Wo (fun i s2 => Wo (fun x s3 => ∃ l k, getC s3 a = some (.dK l) ∧ keyOf i = some k ∧ l.length < sizeLine ∧ (match vl l k with
      | some d => QA (.val d) s3
      | none => QA (.val x) (setC s3 a (.dK (pu l k x))))) X (mK m3 s2)) X (mV m2 s1)) X (m1 s)) : Wo QA X (mSetD m1 m2 m3 s) := by
  refine w_bind (w_mono h fun a s1 h => ?_)
  obtain ⟨⟨l0, e0⟩, h⟩ := h
  rw [e0]
  refine w_bind (w_mono h fun i s2 h => w_bind (w_mono h fun x s3 h => ?_))
  obtain ⟨l, k, e1, e2, c, h⟩ := h
  rw [e1, e2]
  show Wo QA X (if _ then _ else _)
  rw [if_pos c]
  cases q : vl l k with
  | some d => rw [q] at h; exact h
  | none => rw [q] at h; exact h
end
end Y
namespace Y
open PySem L2 Z
open PyProof.Rows (risingS sortedS)
end Y
namespace Hd
open PySem PySem.Spec PyProof.Rows L2
/-- what a name of the module stands for -/
def relAt (K : PySem.W.Frag) (x : Str) (v : V) : Bool := match PySem.W.nsIn K mainGlobals x with
  | some (some u) => He.relB v u
  | _ => false
theorem relAt_ok {K : PySem.W.Frag} {x : Str} {v : V} (h : relAt K x v = true) : ∃ u, PySem.W.nsIn K mainGlobals x = some (some u) ∧ RelV v u := by
  unfold relAt at h
  cases e : PySem.W.nsIn K mainGlobals x with
  | none => rw [e] at h; cases h
  | some r =>
    rw [e] at h
    cases r with
    | none => cases h
    | some u => exact ⟨u, rfl, He.relB_ok h⟩
/-- a list or a tuple of the module -/
def seqAt (K : PySem.W.Frag) (x : Str) (c : String) (vs : List V) : Bool := match K.lookup (He.ga K x) with
  | some ⟨.type d, none, .seq its _, _⟩ => decide (d = c) && (decide (its.size ≤ sizeLine) && He.relAll vs its.toList)
  | _ => false
theorem seqAt_ok {K : PySem.W.Frag} {x : Str} {c : String} {vs : List V} (h : seqAt K x c vs = true) : ∃ (kob : Obj) (kits : Array Value) (kn : Nat), K.lookup (He.ga K x) = some kob ∧ kob.cls = .type c ∧ kob.dict = none ∧ kob.data = .seq kits kn ∧ kits.size ≤ sizeLine ∧ Vals vs kits.toList := by
  unfold seqAt at h
  cases q : K.lookup (He.ga K x) with
  | none => rw [q] at h; cases h
  | some o =>
    obtain ⟨oc, od, dt, osl⟩ := o
    rw [q] at h
    cases oc with
    | type d =>
      cases od with
      | none =>
        cases dt with
        | seq its n =>
          obtain ⟨h1, h2⟩ := He.ba (show (decide (d = c) && (decide (its.size ≤ sizeLine) && He.relAll vs its.toList)) = true from h)
          obtain ⟨h3, h4⟩ := He.ba h2
          exact ⟨_, its, n, rfl, congrArg Value.type (of_decide_eq_true h1), rfl, rfl, of_decide_eq_true h3, He.relAll_ok h4⟩
        | _ => cases h
      | some a => cases dt <;> cases h
    | _ => cases od <;> cases dt <;> cases h
/-- a def with defaults -/
def dfAt (K : PySem.W.Frag) (p : Str × Option Str) (qual : Str) (dvs : List V) : Bool := match K.lookup (He.fAd K p) with
  | some ⟨_, _, .func fd, _⟩ => PySem.W.codeIn K fd.code qual && (match fd.defaults with
    | .ref T => (match K.lookup T with
      | some ⟨_, _, .seq its _, _⟩ => He.relAll dvs its.toList
      | _ => false)
    | _ => false)
  | _ => false
theorem dfAt_ok {K : PySem.W.Frag} {d : He.DefD} {dvs : List V} (e : He.fnW K d.at_ = d.val) (h : dfAt K d.at_ d.qual dvs = true) :
    ∃ oc od osl T kV doc pm an cdv ct o us n, K.lookup (He.fAd K d.at_) = some ⟨oc, od, .func (PySem.W.fnOf d.name d.qual d.params d.body d.scope (.ref T) kV doc pm an cdv ct), osl⟩ ∧ PySem.W.codeIn K cdv d.qual = true ∧ K.lookup T = some o ∧ o.data = .seq (List.toArray us) n ∧ Vals dvs us := by
  unfold dfAt at h
  unfold He.fnW at e
  cases q : K.lookup (He.fAd K d.at_) with
  | none => rw [q] at h; cases h
  | some o =>
    obtain ⟨oc, od, dt, osl⟩ := o
    rw [q] at h e
    cases dt with
    | func fd =>
      obtain ⟨n1, n2, n3, n4, n5, n6, n7, n8, n9, n10, n11, n12, n13, n14, n15⟩ := fd
      have e2 : (some (n1, n2, n3, n4, n5, n6, n7, n15) : He.FnW) = some (d.name, d.qual, d.params, .stmts d.body, d.scope, mainGlobals, [], builtinsNs) := e
      simp only [Option.some.injEq, Prod.mk.injEq] at e2
      obtain ⟨h1, h2, h3, h4, h5, h6, h7, h8⟩ := e2
      subst h1 h2 h3 h4 h5 h6 h7 h8
      dsimp only at h
      obtain ⟨c1, c2⟩ := He.ba h
      cases n8 with
      | ref T =>
        cases q2 : K.lookup T with
        | none =>
          dsimp only at c2
          rw [q2] at c2; cases c2
        | some o2 =>
          obtain ⟨oc2, od2, dt2, osl2⟩ := o2
          dsimp only at c2
          rw [q2] at c2
          cases dt2 with
          | seq its n => exact ⟨oc, od, osl, T, n9, n10, n11, n12, n13, n14, _, its.toList, n, rfl, c1, q2, by simp, He.relAll_ok c2⟩
          | _ => cases c2
      | _ => cases c2
    | _ => cases h
abbrev Ex : Type := List (List (PySem.W.Frag → Bool))
abbrev Al : Type := Bool × (List He.FnV × List He.FnW)
def exB (ex : Ex) (fn : List He.FnD) (K : PySem.W.Frag) : Bool := (ex.all fun l => l.all fun f => f K) && fn.all fun d => (He.Fa.code d.at_ d.qual).ok K
def obs (fn : List He.FnD) (fd : List He.DefD) (ex : Ex) (K : PySem.W.Frag) : Al := (exB ex fn K, fn.map (fun d => He.fnObs K d.at_), fd.map fun d => He.fnW K d.at_)
def val (fn : List He.FnD) (fd : List He.DefD) : Al := (true, fn.map He.FnD.val, fd.map He.DefD.val)
def Says (fn : List He.FnD) (fd : List He.DefD) (ex : Ex) (K : PySem.W.Frag) : Prop := obs fn fd ex K = val fn fd
/-- the objects that are looked at: the module's names, what stands behind them, the classes' tables, the methods -/
def outs (o : Obj) : List Addr := match o.data with
  | .func fd => He.refV fd.code ++ He.refV fd.defaults
  | .cls cd => [cd.ns]
  | .dict es _ => es.toList.flatMap fun e => He.refV e.val
  | _ => []
def outsG (g : Addr → Option Obj) (as : List Addr) : List Addr := as.flatMap fun a => match g a with
  | some o => outs o
  | none => []
def asK (g : Addr → Option Obj) : Nat → List Addr → List Addr
  | 0, l => l
  | n + 1, l => l ++ asK g n (outsG g l)
def obsG (n : Nat) (fn : List He.FnD) (fd : List He.DefD) (ex : Ex) (g : Addr → Option Obj) : Al := obs fn fd ex (He.frG g (PySem.cStatics :: asK g n [mainGlobals]))
def hook (n : Nat) (fn : List He.FnD) (fd : List He.DefD) (ex : Ex) : PySem.W.Hook where
  α := Al
  obs := fun s => obsG n fn fd ex s.heap.get?
  val := fun _ => val fn fd
  says := fun _ h => ∃ K : PySem.W.Frag, K.In h ∧ Says fn fd ex K
  of := fun _ _ e => ⟨_, He.frG_in, e⟩
  keeps := fun _ _ _ ⟨K, hK, c⟩ k => ⟨K, PySem.W.Frag.In.keeps hK k, c⟩
theorem obsG_eq {n : Nat} {fn : List He.FnD} {fd : List He.DefD} {ex : Ex} {g : Addr → Option Obj} {s : Shared} (h : ∀ a, g a = s.heap.get? a) : obsG n fn fd ex g = (hook n fn fd ex).obs s := by
  have e : g = s.heap.get? := funext h
  rw [e] <;> rfl
section
variable {fn : List He.FnD} {fd : List He.DefD} {ex : Ex} {K : PySem.W.Frag}
theorem Says.all (c : Says fn fd ex K) : exB ex fn K = true := congrArg (fun z : Al => z.1) c
theorem Says.fact (c : Says fn fd ex K) (i j : Nat) {l : List (PySem.W.Frag → Bool)} {f : PySem.W.Frag → Bool} (hl : ex[i]? = some l) (hf : l[j]? = some f) : f K = true :=
  List.all_eq_true.mp (List.all_eq_true.mp (He.ba c.all).1 l (List.mem_of_getElem? hl)) f (List.mem_of_getElem? hf)
theorem Says.def_ (c : Says fn fd ex K) (i : Nat) {d : He.FnD} (h : fn[i]? = some d) :
    ∃ oc od osl kV doc pm an cdv ct, K.lookup (He.fAd K d.at_) = some ⟨oc, od, .func (PySem.W.fnOf d.name d.qual d.params d.body d.scope .none kV doc pm an cdv ct), osl⟩ ∧ PySem.W.codeIn K cdv d.qual = true := by
  have e : fn.map (fun d => He.fnObs K d.at_) = fn.map He.FnD.val := congrArg (fun z : Al => z.2.1) c
  have e2 : (fn.map fun d => He.fnObs K d.at_)[i]? = (fn.map He.FnD.val)[i]? := by rw [e]
  rw [List.getElem?_map, List.getElem?_map, h] at e2
  exact He.fn_ok (Option.some.inj e2) (List.all_eq_true.mp (He.ba c.all).2 d (List.mem_of_getElem? h))
theorem Says.dflt (c : Says fn fd ex K) (i : Nat) {d : He.DefD} (h : fd[i]? = some d) : He.fnW K d.at_ = d.val := by
  have e : fd.map (fun d => He.fnW K d.at_) = fd.map He.DefD.val := congrArg (fun z : Al => z.2.2) c
  have e2 : (fd.map fun d => He.fnW K d.at_)[i]? = (fd.map He.DefD.val)[i]? := by rw [e]
  rw [List.getElem?_map, List.getElem?_map, h] at e2
  exact Option.some.inj e2
end
end Hd
namespace Y
open PySem L2 Z
section
variable {K : PySem.W.Frag} {ct : Ct} {H0 : Hp} {W : WX} {S : Sh} {s : Stt} {σ : St} {H : Hp}
theorem SqL.grow {H H' : Hp} {p a : Addr} {ys : List V} (h : SqL K H p ys) (ha : H a = none) (k : ∀ b o, H b = some o → b ≠ a → H' b = some o) : SqL K H' p ys := by
  rcases h with h | h
  · refine .inl ?_
    rcases h with h | ⟨o, h⟩
    · exact .inl (k _ _ h (fun e => by rw [e, ha] at h; cases h))
    · exact .inr ⟨o, k _ _ h (fun e => by rw [e, ha] at h; cases h)⟩
  · exact .inr h
variable {N : Stt → Prop} {O : Rs → Prop}
end
end Y
namespace Y
open PySem L2 Z
end Y
namespace Y
open PySem L2 Z
end Y
namespace Y
open PySem PySem.Spec PyProof.Rows L2 Z
section
variable {K : PySem.W.Frag} {ct : Ct} {H0 : Hp} {W : WX} {S : Sh} {s : Stt} {σ : L2.St} {H : Hp}
def mWZs (m : Mo (List D)) : Mo Im := fun s => (m s).bind fun ds s1 => match ds with
  | [.str x, .ctp l] => .ok ⟨zipL (strL x) l, none⟩ s1
  | _ => .no
end
section
variable {s : Stt} {QI : Im → Stt → Prop} {X : Exn → Stt → Prop}
theorem w_wzs {r : Mo (List D)} (h : Wo (fun ds s1 => ∃ x l, ds = [.str x, .ctp l] ∧ QI ⟨zipL (strL x) l, none⟩ s1) X (r s)) : Wo QI X (mWZs r s) :=
  w_bind (w_mono h fun ds s1 h => by
    obtain ⟨x, l, rfl, h⟩ := h
    exact h)
end
end Y
namespace Y
open PySem L2 Z
end Y
namespace Y
open PySem L2 Z PySem.Spec PyProof.Rows
section
variable {P : Program} {w : World} {A : Around} {E : Value → Shared → Prop} {z : Shared}
/-- an empty set, as it is made -/
abbrev nwS (w : World) : Obj := { cls := .type "set", dict := none, data := .set #[] 0 (.fresh 0 0 (!w.params.followText "set-order")) }
/-- the heap with it -/
abbrev hpS (w : World) (z : Shared) : Heap := z.heap.push (nwS w)
/-- what holds when the list's numbers are in the set -/
def InS (w : World) (ns : List Int) (z : Shared) (z2 : Shared) : Prop := ∃ h1 t c, z2 = { z with heap := h1, toks := t } ∧ SetR w h1 z.heap.objs.size (fun j => decide (j ∈ ns)) c ∧ c ≤ ns.length ∧ ∀ b o, z.heap.get? b = some o → h1.get? b = some o
/-- the list's numbers put in, one by one -/
theorem fill_set {l : Addr} {xs : Array Value} {ns : List Int} {R : Result → Shared → Prop} (hh : A.handled = none) (hl : z.heap.IsList l xs) (hi : IntsAre xs.toList ns) (hb : ns.length + 1 < scanBound)
    (h : ∀ z2, InS w ns z z2 → R (.ok (.ret .none)) z2) :
    codeAny (model P w) A (.builtin "set.update.loop" ⟨[.ref z.heap.objs.size, .ref (hpS w z).objs.size], []⟩) R { z with heap := (hpS w z).push { cls := .type "list_iterator", data := .fields #[.ref l, .int 0 0] } } := by
  have hn : xs.size = ns.length := by rw [← IntsAre.length hi, Array.length_toList]
  have sz : (hpS w z).objs.size = z.heap.objs.size + 1 := Heap.size_push ..
  have gS : (hpS w z).get? z.heap.objs.size = some (nwS w) := Heap.get?_push_size _ rfl
  have lt : l < z.heap.objs.size := by obtain ⟨_, e, _⟩ := hl; exact Heap.lt_size e
  have kl : (hpS w z).IsList l xs := hl.push _
  have no : z.heap.objs.size ∉ [(hpS w z).objs.size, l] := by
    rw [sz]; intro q
    rcases List.mem_cons.mp q with q | q
    · exact absurd q (Nat.ne_of_lt (Nat.lt_succ_self _))
    · exact absurd (List.mem_singleton.mp q) (Nat.ne_of_gt lt)
  refine set_update_ints ((Walks.list (by simp [hh]) _ l (by rw [sz]; exact Nat.ne_of_lt (Nat.lt_succ_of_lt lt)) xs).toS) z.heap.objs.size no ns hn hb (fun i v e => ?_) (xs.size - 0) 0 _ rfl (Nat.zero_le _) ⟨⟨_, Heap.get?_push_size _ rfl, rfl, rfl⟩, kl.push _⟩ ⟨0, Nat.le_refl 0, setR_new_at (Heap.get?_push_of_some _ gS)⟩ (fun z2 c mv hc hS => h z2 ?_)
  · have hlt : i < ns.length := by rw [← hn]; exact (Array.getElem?_eq_some_iff.mp e).1
    obtain ⟨t, q⟩ := IntsAre.int_at hi i v (by rw [Array.getElem?_toList]; exact e)
    rw [List.getD_eq_getElem?_getD, List.getElem?_eq_getElem hlt] at q
    exact ⟨ns[i], t, List.getElem?_eq_getElem hlt, q⟩
  · obtain ⟨h2, g2, d2, t2, o2⟩ := z2
    obtain rfl : g2 = z.gens := mv.gens
    obtain rfl : d2 = z.drawn := mv.drawn
    obtain rfl : o2 = z.os := mv.os
    refine ⟨h2, t2, c, rfl, hS, by rw [← hn]; exact hc, fun b o e => ?_⟩
    have hlt := Heap.lt_size e
    refine mv.heap b o (fun q => ?_) (Heap.get?_push_of_some _ (Heap.get?_push_of_some _ e))
    rw [sz] at q
    rcases List.mem_cons.mp q with q | q
    · exact absurd q (Nat.ne_of_lt hlt)
    · exact absurd (List.mem_singleton.mp q) (Nat.ne_of_lt (Nat.lt_succ_of_lt hlt))
theorem init_set {l : Addr} {xs : Array Value} {ns : List Int} (hh : A.handled = none) (hl : z.heap.IsList l xs) (hi : IntsAre xs.toList ns) (hb : ns.length + 1 < scanBound) :
    codeAny (model P w) A (.call (.builtin "set.__init__") ⟨[.ref z.heap.objs.size, .ref l], []⟩) (wants (fun r z2 => r = .none ∧ InS w ns z z2) E) { z with heap := hpS w z } := by
  have gS : (hpS w z).get? z.heap.objs.size = some (nwS w) := Heap.get?_push_size _ rfl
  have ty : Shared.TypeIs { z with heap := hpS w z } (.ref z.heap.objs.size) "set" := ⟨_, gS, rfl⟩
  refine codeAny_call_builtin F.called_set.init.plain F.entry_set_init (check_set_init_1 ty ?_)
  have kl : (hpS w z).IsList l xs := hl.push _
  have kl2 := kl
  obtain ⟨⟨oc, od, ot, os⟩, go, rfl, k, rfl⟩ := kl2
  have s1 := F.sub_list_set
  have s2 := F.sub_list_frozenset
  have s3 : (Value.type "list" == Value.type "dict") = false := by decide
  unfold Builtin.«set.__init__» noKeywords Builtin.Frozenset.updateFrom
  generalize ep : pyIter = pit
  wp_walk
  subst ep
  refine wpAny_pyIter_list kl (wpAny_bind (wpAny_runValue (fill_set (by simp [hh]) hl hi hb fun z2 q => ?_)))
  show wpAny _ _ _ _ _ _
  refine wpAny_pure (wpAny_pure ?_)
  exact ⟨rfl, q⟩
theorem set_list {l : Addr} {xs : Array Value} {ns : List Int} {Q : Value → Shared → Prop} (hh : A.handled = none) (hl : z.heap.IsList l xs) (hi : IntsAre xs.toList ns) (hb : ns.length + 1 < scanBound)
    (h : ∀ z2, InS w ns z z2 → Q (.ref z.heap.objs.size) z2) : wpAny (model P w) A (call (.type "set") [.ref l]) Q E z := by
  have a1 := F.called_set.made
  have a2 := F.called_set.sub
  have a3 := F.called_set.notType
  have a4 := F.called_set.canCreate
  have a5 := F.typeCall_set_1 (.ref l)
  obtain ⟨c, tl, a6⟩ := F.called_set.mro
  refine wpAny_call (codeAny_of_tree (show wpAny _ _ (callAny (.type "set") _) _ _ _ from wpAny_pure ⟨Code.quiet_builtin _ (by decide +kernel), codeAny_builtin F.entry_type_call ?_⟩))
  rw [Around.under_plain (weight_type_call_type "set" [.ref l] []) rfl]
  repeat (any_goals (first | assumption | wp_step))
  refine codeAny_mono (code_set_led1 (.ref l) (E := E) (Q₁ := fun o z2 => o = .ref z.heap.objs.size ∧ z2 = { z with heap := hpS w z }) ⟨rfl, rfl⟩) fun r z1 hr => ?_
  cases r with
  | error e => exact hr
  | ok f =>
    cases f with
    | ret o =>
      obtain ⟨rfl, rfl⟩ := hr
      have gS : (hpS w z).get? z.heap.objs.size = some (nwS w) := Heap.get?_push_size _ rfl
      have ty : Shared.TypeIs { z with heap := hpS w z } (.ref z.heap.objs.size) "set" := ⟨_, gS, rfl⟩
      have b1 := F.called_set.init.lookup
      have b2 := F.called_set.init.bind (.ref z.heap.objs.size)
      repeat (any_goals (first | assumption | wp_step))
      refine codeAny_mono (init_set (E := E) (by simp [hh]) hl hi hb) fun r2 z2 q => ?_
      cases r2 with
      | error e => exact q
      | ok f2 =>
        cases f2 with
        | ret v =>
          obtain ⟨rfl, q⟩ := q
          have hq := h z2 q
          repeat (any_goals (first | assumption | wp_step))
        | _ => exact q.elim
    | _ => exact hr.elim
end
end Y
namespace Y
open PySem L2 Z PySem.Spec PyProof.Rows
end Y
namespace Y
open PySem L2 Z
end Y
namespace Y
open PySem L2 Z PySem.Spec PyProof.Rows
section
variable {K : PySem.W.Frag} {ct : Ct} {H0 : Hp} {W : WX}
def mSetT (mo mi mx : Mo AI) : Mo AI := fun s => (mo s).bind fun a s1 => match viewDT s1 a with
  | some _ => (mV mi s1).bind fun i s2 => (mK mx s2).bind fun x s3 => match getC s3 a, tkey i with
    | some (.dT l), some k => if l.length < sizeLine then (match vl l k with
      | some d => .ok (.val d) s3
      | none => .ok (.val x) (setC s3 a (.dT (pu l k x)))) else .no
    | _, _ => .no
  | none => .no
end
section
variable {s : Stt} {X : Exn → Stt → Prop} {QA : AI → Stt → Prop}
theorem w_setT {m1 m2 m3 : Mo AI} (h : Wo (fun a s1 => (∃ l, viewDT s1 a = some l) ∧ Wo (fun i s2 => Wo (fun x s3 => ∃ l k, getC s3 a = some (.dT l) ∧ tkey i = some k ∧ l.length < sizeLine ∧ (match vl l k with
      | some d => QA (.val d) s3
      | none => QA (.val x) (setC s3 a (.dT (pu l k x))))) X (mK m3 s2)) X (mV m2 s1)) X (m1 s)) : Wo QA X (mSetT m1 m2 m3 s) := by
  refine w_bind (w_mono h fun a s1 h => ?_)
  obtain ⟨⟨l0, e0⟩, h⟩ := h
  rw [e0]
  refine w_bind (w_mono h fun i s2 h => w_bind (w_mono h fun x s3 h => ?_))
  obtain ⟨l, k, e1, e2, hz, h⟩ := h
  rw [e1, e2]
  simp only []
  rw [if_pos hz]
  cases q : vl l k with
  | none => rw [q] at h; exact h
  | some d => rw [q] at h; exact h
end
end Y
namespace Y
open PySem L2 Z PySem.Spec PyProof.Rows
section
variable {P : Program} {w : World} {A : Around} {E : Value → Shared → Prop} {z : Shared}
/-- a set of so many things -/
def SzAt (S : Addr) (n : Nat) (h : Heap) : Prop := ∃ o es ep t, h.get? S = some o ∧ o.ExactSet ∧ o.data = .set es ep t ∧ t.fits es.size = true ∧ es.size = n
theorem SzAt.keep {S : Addr} {n : Nat} {h h' : Heap} (g : SzAt S n h) (k : ∀ o, h.get? S = some o → h'.get? S = some o) : SzAt S n h' := by
  obtain ⟨o, es, ep, t, e, r⟩ := g
  exact ⟨o, es, ep, t, k o e, r⟩
end
section
variable {K : PySem.W.Frag} {ct : Ct} {H0 : Hp} {W : WX} {S : Sh} {s : Stt} {σ : L2.St} {H : Hp}
def tupI : D → Option (List Int)
  | .tup l => intsD l
  | _ => none
def tupsD : List D → Option (List (List Int))
  | [] => some []
  | d :: l => (tupI d).bind fun k => (tupsD l).map (k :: ·)
open Classical in
noncomputable def mLenTups (m : Mo AI) : Mo AI := fun s => (m s).bind fun a s1 => match (viewL s1 a).bind tupsD with
  | some xs => if xs.Nodup ∧ xs.length ≤ 64 then .ok (.val (.int xs.length)) s1 else .no
  | none => .no
theorem w_lenTups {m : Mo AI} {s : Stt} {X : Exn → Stt → Prop} {QA : AI → Stt → Prop} (h : Wo (fun a s1 => ∃ xs, (viewL s1 a).bind tupsD = some xs ∧ (xs.Nodup ∧ xs.length ≤ 64) ∧ QA (.val (.int xs.length)) s1) X (m s)) : Wo QA X (mLenTups m s) := w_bind (w_mono h fun a s1 ⟨xs, e, c, h⟩ => by
  show Wo QA X (match (viewL s1 a).bind tupsD with | some xs => _ | none => _)
  rw [e]
  show Wo QA X (if xs.Nodup ∧ xs.length ≤ 64 then _ else _)
  rw [if_pos c]; exact h)
end
end Y
namespace K32
open PySem L2 Z Y
def top (i : Nat) : Stmt := PySem.Challenge.pw_tornshelf_k32_pieces_at_places.main.body.getD i (.Pass ⟨0, 0, 0, 0⟩)
abbrev s_is_whole_bits : Stmt := (top 6)
theorem sc_is_whole_bits : FnScope ["thing"] ["thing"] (defScope s_is_whole_bits) := ⟨rfl, rfl, rfl, by decide +kernel, rfl, by decide +kernel, by decide +kernel⟩
abbrev s_refuse_unless : Stmt := (top 8)
theorem sc_refuse_unless : FnScope ["good"] ["good"] (defScope s_refuse_unless) := ⟨rfl, rfl, rfl, by decide +kernel, rfl, by decide +kernel, by decide +kernel⟩
abbrev s_Reader_init : Stmt := (inClass (top 9) 0)
theorem sc_Reader_init : FnScope ["self", "row", "at"] ["self", "row", "at"] (defScope s_Reader_init) := ⟨rfl, rfl, rfl, by decide +kernel, rfl, by decide +kernel, by decide +kernel⟩
abbrev s_Reader_left : Stmt := (inClass (top 9) 1)
theorem sc_Reader_left : FnScope ["self"] ["self"] (defScope s_Reader_left) := ⟨rfl, rfl, rfl, by decide +kernel, rfl, by decide +kernel, by decide +kernel⟩
abbrev s_Reader_take : Stmt := (inClass (top 9) 2)
theorem sc_Reader_take : FnScope ["self", "many", "found", "k"] ["self", "many"] (defScope s_Reader_take) := ⟨rfl, rfl, rfl, by decide +kernel, rfl, by decide +kernel, by decide +kernel⟩
abbrev s_Reader_place : Stmt := (inClass (top 9) 3)
theorem sc_Reader_place : FnScope ["self"] ["self"] (defScope s_Reader_place) := ⟨rfl, rfl, rfl, by decide +kernel, rfl, by decide +kernel, by decide +kernel⟩
abbrev s_Reader_ended : Stmt := (inClass (top 9) 4)
theorem sc_Reader_ended : FnScope ["self"] ["self"] (defScope s_Reader_ended) := ⟨rfl, rfl, rfl, by decide +kernel, rfl, by decide +kernel, by decide +kernel⟩
abbrev s_crc_on : Stmt := (top 14)
theorem sc_crc_on : FnScope ["begun", "row", "found", "byte", "k"] ["begun", "row"] (defScope s_crc_on) := ⟨rfl, rfl, rfl, by decide +kernel, rfl, by decide +kernel, by decide +kernel⟩
abbrev s_crc : Stmt := (top 15)
theorem sc_crc : FnScope ["row"] ["row"] (defScope s_crc) := ⟨rfl, rfl, rfl, by decide +kernel, rfl, by decide +kernel, by decide +kernel⟩
abbrev s_crc_row : Stmt := (top 16)
theorem sc_crc_row : FnScope ["row", "found"] ["row"] (defScope s_crc_row) := ⟨rfl, rfl, rfl, by decide +kernel, rfl, by decide +kernel, by decide +kernel⟩
abbrev s_is_whole_tables : Stmt := (top 20)
theorem sc_is_whole_tables : FnScope ["thing"] ["thing"] (defScope s_is_whole_tables) := ⟨rfl, rfl, rfl, by decide +kernel, rfl, by decide +kernel, by decide +kernel⟩
abbrev s_is_list_of : Stmt := (top 22)
theorem sc_is_list_of : FnScope ["thing", "low", "high", "number"] ["thing", "low", "high"] (defScope s_is_list_of) := ⟨rfl, rfl, rfl, by decide +kernel, rfl, by decide +kernel, by decide +kernel⟩
abbrev s_room_of : Stmt := (top 23)
theorem sc_room_of : FnScope ["lengths", "length"] ["lengths"] (defScope s_room_of) := ⟨rfl, rfl, rfl, by decide +kernel, rfl, by decide +kernel, by decide +kernel⟩
abbrev s_fits : Stmt := (top 24)
theorem sc_fits : FnScope ["lengths"] ["lengths"] (defScope s_fits) := ⟨rfl, rfl, rfl, by decide +kernel, rfl, by decide +kernel, by decide +kernel⟩
abbrev s_check_lengths : Stmt := (top 25)
theorem sc_check_lengths : FnScope ["lengths"] ["lengths"] (defScope s_check_lengths) := ⟨rfl, rfl, rfl, by decide +kernel, rfl, by decide +kernel, by decide +kernel⟩
abbrev s_words_of : Stmt := (top 27)
theorem sc_words_of : FnScope ["lengths", "found", "number", "last", "length", "symbol"] ["lengths"] (defScope s_words_of) := ⟨rfl, rfl, rfl, by decide +kernel, rfl, by decide +kernel, by decide +kernel⟩
abbrev s_Unpacker_init : Stmt := (inClass (top 36) 0)
theorem sc_Unpacker_init : FnScope ["self", "reader", "words", "many", "symbol", "word"] ["self", "reader", "words", "many"] (defScope s_Unpacker_init) := ⟨rfl, rfl, rfl, by decide +kernel, rfl, by decide +kernel, by decide +kernel⟩
abbrev s_Unpacker_next_symbol : Stmt := (inClass (top 36) 1)
theorem sc_Unpacker_next_symbol : FnScope ["self", "size", "number"] ["self"] (defScope s_Unpacker_next_symbol) := ⟨rfl, rfl, rfl, by decide +kernel, rfl, by decide +kernel, by decide +kernel⟩
abbrev s_Unpacker_take_byte : Stmt := (inClass (top 36) 2)
theorem sc_Unpacker_take_byte : FnScope ["self", "symbol"] ["self", "symbol"] (defScope s_Unpacker_take_byte) := ⟨rfl, rfl, rfl, by decide +kernel, rfl, by decide +kernel, by decide +kernel⟩
abbrev s_Unpacker_take_back : Stmt := (inClass (top 36) 3)
theorem sc_Unpacker_take_back : FnScope ["self", "distance", "length", "k"] ["self"] (defScope s_Unpacker_take_back) := ⟨rfl, rfl, rfl, by decide +kernel, rfl, by decide +kernel, by decide +kernel⟩
abbrev s_Unpacker_is_good : Stmt := (inClass (top 36) 4)
theorem sc_Unpacker_is_good : FnScope ["self", "symbol", "good"] ["self"] (defScope s_Unpacker_is_good) := ⟨rfl, rfl, rfl, by decide +kernel, rfl, by decide +kernel, by decide +kernel⟩
abbrev s_table_at : Stmt := (top 37)
theorem sc_table_at : FnScope ["reader", "lengths", "symbol", "length"] ["reader"] (defScope s_table_at) := ⟨rfl, rfl, rfl, by decide +kernel, rfl, by decide +kernel, by decide +kernel⟩
abbrev s_packed_at : Stmt := (top 38)
theorem sc_packed_at : FnScope ["row", "place", "many", "reader", "lengths", "unpacker"] ["row", "place", "many"] (defScope s_packed_at) := ⟨rfl, rfl, rfl, by decide +kernel, rfl, by decide +kernel, by decide +kernel⟩
abbrev s_body_at : Stmt := (top 39)
theorem sc_body_at : FnScope ["row", "place", "kind", "many"] ["row", "place", "kind", "many"] (defScope s_body_at) := ⟨rfl, rfl, rfl, by decide +kernel, rfl, by decide +kernel, by decide +kernel⟩
abbrev s_piece_at : Stmt := (top 40)
theorem sc_piece_at : FnScope ["row", "place", "head", "found", "told", "behind"] ["row", "place"] (defScope s_piece_at) := ⟨rfl, rfl, rfl, by decide +kernel, rfl, by decide +kernel, by decide +kernel⟩
abbrev s_l_draw : Stmt := (top 42)
theorem sc_l_draw : FnScope ["_law_cell"] ["_law_cell"] (defScope s_l_draw) := ⟨rfl, rfl, rfl, by decide +kernel, rfl, by decide +kernel, by decide +kernel⟩
abbrev s_l_next : Stmt := (top 43)
theorem sc_l_next : FnScope ["_law_draw_here", "_law_size", "_law_digit", "_law_number"] ["_law_draw_here", "_law_size"] (defScope s_l_next) := ⟨rfl, rfl, rfl, by decide +kernel, rfl, by decide +kernel, by decide +kernel⟩
abbrev s_l_sum : Stmt := (top 44)
theorem sc_l_sum : FnScope ["_law_row", "_law_found", "_law_byte", "_law_k"] ["_law_row"] (defScope s_l_sum) := ⟨rfl, rfl, rfl, by decide +kernel, rfl, by decide +kernel, by decide +kernel⟩
abbrev s_l_bytes : Stmt := (top 45)
theorem sc_l_bytes : FnScope ["_law_bits_here", "_law_found", "_law_at", "_law_number", "_law_bit"] ["_law_bits_here"] (defScope s_l_bytes) := ⟨rfl, rfl, rfl, by decide +kernel, rfl, by decide +kernel, by decide +kernel⟩
abbrev s_l_bits : Stmt := (top 46)
theorem sc_l_bits : FnScope ["_law_number", "_law_many", "_law_bits_here", "_law_k"] ["_law_number", "_law_many"] (defScope s_l_bits) := ⟨rfl, rfl, rfl, by decide +kernel, rfl, by decide +kernel, by decide +kernel⟩
abbrev s_l_words : Stmt := (top 47)
theorem sc_l_words : FnScope ["_law_lengths_here", "_law_words_here", "_law_number", "_law_last", "_law_length", "_law_symbol"] ["_law_lengths_here"] (defScope s_l_words) := ⟨rfl, rfl, rfl, by decide +kernel, rfl, by decide +kernel, by decide +kernel⟩
abbrev s_l_room : Stmt := (top 48)
theorem sc_l_room : FnScope ["_law_lengths_here", "_law_length"] ["_law_lengths_here"] (defScope s_l_room) := ⟨rfl, rfl, rfl, by decide +kernel, rfl, by decide +kernel, by decide +kernel⟩
abbrev s_l_lengths : Stmt := (top 49)
theorem sc_l_lengths : FnScope ["_law_draw_here", "_law_lengths_here", "_law_k", "_law_symbol", "_law_length"] ["_law_draw_here"] (defScope s_l_lengths) := ⟨rfl, rfl, rfl, by decide +kernel, rfl, by decide +kernel, by decide +kernel⟩
abbrev s_l_overfull : Stmt := (top 50)
theorem sc_l_overfull : FnScope ["_law_draw_here", "_law_lengths_here", "_law_first", "_law_symbol"] ["_law_draw_here"] (defScope s_l_overfull) := ⟨rfl, rfl, rfl, by decide +kernel, rfl, by decide +kernel, by decide +kernel⟩
abbrev s_l_body : Stmt := (top 51)
theorem sc_l_body : FnScope ["_law_draw_here", "_law_many", "_law_spoilt", "_law_lengths_here", "_law_words_here", "_law_known", "_law_made", "_law_bits_here", "_law_size", "_law_far", "_law_symbol", "_law_word", "_law_length"] ["_law_draw_here", "_law_many", "_law_spoilt"] (defScope s_l_body) := ⟨rfl, rfl, rfl, by decide +kernel, rfl, by decide +kernel, by decide +kernel⟩
abbrev s_l_piece : Stmt := (top 52)
theorem sc_l_piece : FnScope ["_law_draw_here", "_law_kind", "_law_many", "_law_spoilt", "_law_body_here", "_law_told", "_law_at", "_law_row", "_law_k"] ["_law_draw_here"] (defScope s_l_piece) := ⟨rfl, rfl, rfl, by decide +kernel, rfl, by decide +kernel, by decide +kernel⟩
abbrev s_l_take : Stmt := (top 53)
theorem sc_l_take : FnScope ["_law_bits_here", "_law_words_here", "_law_many", "_law_made", "_law_at", "_law_symbol", "_law_one", "_law_word", "_law_rest", "_law_far", "_law_size", "_law_k"] ["_law_bits_here", "_law_words_here", "_law_many"] (defScope s_l_take) := ⟨rfl, rfl, rfl, by decide +kernel, rfl, by decide +kernel, by decide +kernel⟩
abbrev s_l_unpacked : Stmt := (top 54)
theorem sc_l_unpacked : FnScope ["_law_row", "_law_many", "_law_bits_here", "_law_lengths_here", "_law_found", "_law_byte", "_law_k"] ["_law_row", "_law_many"] (defScope s_l_unpacked) := ⟨rfl, rfl, rfl, by decide +kernel, rfl, by decide +kernel, by decide +kernel⟩
abbrev s_l_due : Stmt := (top 55)
theorem sc_l_due : FnScope ["_law_row", "_law_place", "_law_told", "_law_found"] ["_law_row", "_law_place"] (defScope s_l_due) := ⟨rfl, rfl, rfl, by decide +kernel, rfl, by decide +kernel, by decide +kernel⟩
abbrev s_law : Stmt := (top 56)
theorem sc_law : FnScope ["_law_script", "_law_cell", "_law_draw_here", "_law_row", "_law_k", "_law_j", "_law_handed", "_law_place", "_law_due_here", "_law_found"] ["_law_script"] (defScope s_law) := ⟨rfl, rfl, rfl, by decide +kernel, rfl, by decide +kernel, by decide +kernel⟩
/-- what the top has written -/
structure Tx (K : PySem.W.Frag) (mg : Str → Option Value) where
  a_is_whole_bits : Addr
  d_is_whole_bits : FuncData
  F_is_whole_bits : Fun K "is_whole" "is_whole" s_is_whole_bits a_is_whole_bits d_is_whole_bits
  b_is_whole_bits : Binds K d_is_whole_bits ["thing"] []
  g_is_whole_bits : mg "is_whole_bits" = some (.ref a_is_whole_bits)
  a_refuse_unless : Addr
  d_refuse_unless : FuncData
  F_refuse_unless : Fun K "refuse_unless" "refuse_unless" s_refuse_unless a_refuse_unless d_refuse_unless
  b_refuse_unless : Binds K d_refuse_unless ["good"] []
  g_refuse_unless : mg "refuse_unless" = some (.ref a_refuse_unless)
  a_Reader_init : Addr
  d_Reader_init : FuncData
  F_Reader_init : FunD K "__init__" "Reader.__init__" (defArgs s_Reader_init) (defBody s_Reader_init) (defScope s_Reader_init) [V.int 0] [] a_Reader_init d_Reader_init
  ds_Reader_init_1 : List Value
  v_Reader_init_1 : Vals [V.int 0] ds_Reader_init_1
  b_Reader_init_1 : Binds K d_Reader_init ["self", "row", "at"] ds_Reader_init_1
  b_Reader_init : Binds K d_Reader_init ["self", "row", "at"] []
  a_Reader_left : Addr
  d_Reader_left : FuncData
  F_Reader_left : Fun K "left" "Reader.left" s_Reader_left a_Reader_left d_Reader_left
  b_Reader_left : Binds K d_Reader_left ["self"] []
  a_Reader_take : Addr
  d_Reader_take : FuncData
  F_Reader_take : Fun K "take" "Reader.take" s_Reader_take a_Reader_take d_Reader_take
  b_Reader_take : Binds K d_Reader_take ["self", "many"] []
  a_Reader_place : Addr
  d_Reader_place : FuncData
  F_Reader_place : Fun K "place" "Reader.place" s_Reader_place a_Reader_place d_Reader_place
  b_Reader_place : Binds K d_Reader_place ["self"] []
  a_Reader_ended : Addr
  d_Reader_ended : FuncData
  F_Reader_ended : Fun K "ended" "Reader.ended" s_Reader_ended a_Reader_ended d_Reader_ended
  b_Reader_ended : Binds K d_Reader_ended ["self"] []
  a_crc_on : Addr
  d_crc_on : FuncData
  F_crc_on : Fun K "crc_on" "crc_on" s_crc_on a_crc_on d_crc_on
  b_crc_on : Binds K d_crc_on ["begun", "row"] []
  g_crc_on : mg "crc_on" = some (.ref a_crc_on)
  a_crc : Addr
  d_crc : FuncData
  F_crc : Fun K "crc" "crc" s_crc a_crc d_crc
  b_crc : Binds K d_crc ["row"] []
  g_crc : mg "crc" = some (.ref a_crc)
  a_crc_row : Addr
  d_crc_row : FuncData
  F_crc_row : Fun K "crc_row" "crc_row" s_crc_row a_crc_row d_crc_row
  b_crc_row : Binds K d_crc_row ["row"] []
  g_crc_row : mg "crc_row" = some (.ref a_crc_row)
  a_is_whole_tables : Addr
  d_is_whole_tables : FuncData
  F_is_whole_tables : Fun K "is_whole" "is_whole" s_is_whole_tables a_is_whole_tables d_is_whole_tables
  b_is_whole_tables : Binds K d_is_whole_tables ["thing"] []
  g_is_whole_tables : mg "is_whole_tables" = some (.ref a_is_whole_tables)
  a_is_list_of : Addr
  d_is_list_of : FuncData
  F_is_list_of : Fun K "is_list_of" "is_list_of" s_is_list_of a_is_list_of d_is_list_of
  b_is_list_of : Binds K d_is_list_of ["thing", "low", "high"] []
  g_is_list_of : mg "is_list_of" = some (.ref a_is_list_of)
  a_room_of : Addr
  d_room_of : FuncData
  F_room_of : Fun K "room_of" "room_of" s_room_of a_room_of d_room_of
  b_room_of : Binds K d_room_of ["lengths"] []
  g_room_of : mg "room_of" = some (.ref a_room_of)
  a_fits : Addr
  d_fits : FuncData
  F_fits : Fun K "fits" "fits" s_fits a_fits d_fits
  b_fits : Binds K d_fits ["lengths"] []
  g_fits : mg "fits" = some (.ref a_fits)
  a_check_lengths : Addr
  d_check_lengths : FuncData
  F_check_lengths : Fun K "check_lengths" "check_lengths" s_check_lengths a_check_lengths d_check_lengths
  b_check_lengths : Binds K d_check_lengths ["lengths"] []
  g_check_lengths : mg "check_lengths" = some (.ref a_check_lengths)
  a_words_of : Addr
  d_words_of : FuncData
  F_words_of : Fun K "words_of" "words_of" s_words_of a_words_of d_words_of
  b_words_of : Binds K d_words_of ["lengths"] []
  g_words_of : mg "words_of" = some (.ref a_words_of)
  a_Unpacker_init : Addr
  d_Unpacker_init : FuncData
  F_Unpacker_init : Fun K "__init__" "Unpacker.__init__" s_Unpacker_init a_Unpacker_init d_Unpacker_init
  b_Unpacker_init : Binds K d_Unpacker_init ["self", "reader", "words", "many"] []
  a_Unpacker_next_symbol : Addr
  d_Unpacker_next_symbol : FuncData
  F_Unpacker_next_symbol : Fun K "next_symbol" "Unpacker.next_symbol" s_Unpacker_next_symbol a_Unpacker_next_symbol d_Unpacker_next_symbol
  b_Unpacker_next_symbol : Binds K d_Unpacker_next_symbol ["self"] []
  a_Unpacker_take_byte : Addr
  d_Unpacker_take_byte : FuncData
  F_Unpacker_take_byte : Fun K "take_byte" "Unpacker.take_byte" s_Unpacker_take_byte a_Unpacker_take_byte d_Unpacker_take_byte
  b_Unpacker_take_byte : Binds K d_Unpacker_take_byte ["self", "symbol"] []
  a_Unpacker_take_back : Addr
  d_Unpacker_take_back : FuncData
  F_Unpacker_take_back : Fun K "take_back" "Unpacker.take_back" s_Unpacker_take_back a_Unpacker_take_back d_Unpacker_take_back
  b_Unpacker_take_back : Binds K d_Unpacker_take_back ["self"] []
  a_Unpacker_is_good : Addr
  d_Unpacker_is_good : FuncData
  F_Unpacker_is_good : Fun K "is_good" "Unpacker.is_good" s_Unpacker_is_good a_Unpacker_is_good d_Unpacker_is_good
  b_Unpacker_is_good : Binds K d_Unpacker_is_good ["self"] []
  a_table_at : Addr
  d_table_at : FuncData
  F_table_at : Fun K "table_at" "table_at" s_table_at a_table_at d_table_at
  b_table_at : Binds K d_table_at ["reader"] []
  g_table_at : mg "table_at" = some (.ref a_table_at)
  a_packed_at : Addr
  d_packed_at : FuncData
  F_packed_at : Fun K "packed_at" "packed_at" s_packed_at a_packed_at d_packed_at
  b_packed_at : Binds K d_packed_at ["row", "place", "many"] []
  g_packed_at : mg "packed_at" = some (.ref a_packed_at)
  a_body_at : Addr
  d_body_at : FuncData
  F_body_at : Fun K "body_at" "body_at" s_body_at a_body_at d_body_at
  b_body_at : Binds K d_body_at ["row", "place", "kind", "many"] []
  g_body_at : mg "body_at" = some (.ref a_body_at)
  a_piece_at : Addr
  d_piece_at : FuncData
  F_piece_at : Fun K "piece_at" "piece_at" s_piece_at a_piece_at d_piece_at
  b_piece_at : Binds K d_piece_at ["row", "place"] []
  g_piece_at : mg "piece_at" = some (.ref a_piece_at)
  a_l_draw : Addr
  d_l_draw : FuncData
  F_l_draw : Fun K "_law_draw" "_law_draw" s_l_draw a_l_draw d_l_draw
  b_l_draw : Binds K d_l_draw ["_law_cell"] []
  g_l_draw : mg "_law_draw" = some (.ref a_l_draw)
  a_l_next : Addr
  d_l_next : FuncData
  F_l_next : Fun K "_law_next" "_law_next" s_l_next a_l_next d_l_next
  b_l_next : Binds K d_l_next ["_law_draw_here", "_law_size"] []
  g_l_next : mg "_law_next" = some (.ref a_l_next)
  a_l_sum : Addr
  d_l_sum : FuncData
  F_l_sum : Fun K "_law_sum" "_law_sum" s_l_sum a_l_sum d_l_sum
  b_l_sum : Binds K d_l_sum ["_law_row"] []
  g_l_sum : mg "_law_sum" = some (.ref a_l_sum)
  a_l_bytes : Addr
  d_l_bytes : FuncData
  F_l_bytes : Fun K "_law_bytes" "_law_bytes" s_l_bytes a_l_bytes d_l_bytes
  b_l_bytes : Binds K d_l_bytes ["_law_bits_here"] []
  g_l_bytes : mg "_law_bytes" = some (.ref a_l_bytes)
  a_l_bits : Addr
  d_l_bits : FuncData
  F_l_bits : Fun K "_law_bits" "_law_bits" s_l_bits a_l_bits d_l_bits
  b_l_bits : Binds K d_l_bits ["_law_number", "_law_many"] []
  g_l_bits : mg "_law_bits" = some (.ref a_l_bits)
  a_l_words : Addr
  d_l_words : FuncData
  F_l_words : Fun K "_law_words" "_law_words" s_l_words a_l_words d_l_words
  b_l_words : Binds K d_l_words ["_law_lengths_here"] []
  g_l_words : mg "_law_words" = some (.ref a_l_words)
  a_l_room : Addr
  d_l_room : FuncData
  F_l_room : Fun K "_law_room" "_law_room" s_l_room a_l_room d_l_room
  b_l_room : Binds K d_l_room ["_law_lengths_here"] []
  g_l_room : mg "_law_room" = some (.ref a_l_room)
  a_l_lengths : Addr
  d_l_lengths : FuncData
  F_l_lengths : Fun K "_law_lengths" "_law_lengths" s_l_lengths a_l_lengths d_l_lengths
  b_l_lengths : Binds K d_l_lengths ["_law_draw_here"] []
  g_l_lengths : mg "_law_lengths" = some (.ref a_l_lengths)
  a_l_overfull : Addr
  d_l_overfull : FuncData
  F_l_overfull : Fun K "_law_overfull" "_law_overfull" s_l_overfull a_l_overfull d_l_overfull
  b_l_overfull : Binds K d_l_overfull ["_law_draw_here"] []
  g_l_overfull : mg "_law_overfull" = some (.ref a_l_overfull)
  a_l_body : Addr
  d_l_body : FuncData
  F_l_body : Fun K "_law_body" "_law_body" s_l_body a_l_body d_l_body
  b_l_body : Binds K d_l_body ["_law_draw_here", "_law_many", "_law_spoilt"] []
  g_l_body : mg "_law_body" = some (.ref a_l_body)
  a_l_piece : Addr
  d_l_piece : FuncData
  F_l_piece : Fun K "_law_piece" "_law_piece" s_l_piece a_l_piece d_l_piece
  b_l_piece : Binds K d_l_piece ["_law_draw_here"] []
  g_l_piece : mg "_law_piece" = some (.ref a_l_piece)
  a_l_take : Addr
  d_l_take : FuncData
  F_l_take : Fun K "_law_take" "_law_take" s_l_take a_l_take d_l_take
  b_l_take : Binds K d_l_take ["_law_bits_here", "_law_words_here", "_law_many"] []
  g_l_take : mg "_law_take" = some (.ref a_l_take)
  a_l_unpacked : Addr
  d_l_unpacked : FuncData
  F_l_unpacked : Fun K "_law_unpacked" "_law_unpacked" s_l_unpacked a_l_unpacked d_l_unpacked
  b_l_unpacked : Binds K d_l_unpacked ["_law_row", "_law_many"] []
  g_l_unpacked : mg "_law_unpacked" = some (.ref a_l_unpacked)
  a_l_due : Addr
  d_l_due : FuncData
  F_l_due : Fun K "_law_due" "_law_due" s_l_due a_l_due d_l_due
  b_l_due : Binds K d_l_due ["_law_row", "_law_place"] []
  g_l_due : mg "_law_due" = some (.ref a_l_due)
  a_law : Addr
  d_law : FuncData
  F_law : Fun K "law" "law" s_law a_law d_law
  b_law : Binds K d_law ["_law_script"] []
  g_law : mg "law" = some (.ref a_law)
  C_Reader : Addr
  g_Reader : mg "Reader" = some (.ref C_Reader)
  cl_Reader : Cls K C_Reader
  n_Reader_bytes : NoAttr K C_Reader "bytes"
  n_Reader_next : NoAttr K C_Reader "next"
  K_Reader : Mk K C_Reader a_Reader_init
  M_Reader_left : Meth K C_Reader "left" a_Reader_left
  M_Reader_take : Meth K C_Reader "take" a_Reader_take
  M_Reader_place : Meth K C_Reader "place" a_Reader_place
  M_Reader_ended : Meth K C_Reader "ended" a_Reader_ended
  C_Unpacker : Addr
  g_Unpacker : mg "Unpacker" = some (.ref C_Unpacker)
  cl_Unpacker : Cls K C_Unpacker
  n_Unpacker_reader : NoAttr K C_Unpacker "reader"
  n_Unpacker_many : NoAttr K C_Unpacker "many"
  n_Unpacker_made : NoAttr K C_Unpacker "made"
  n_Unpacker_known : NoAttr K C_Unpacker "known"
  K_Unpacker : Mk K C_Unpacker a_Unpacker_init
  M_Unpacker_next_symbol : Meth K C_Unpacker "next_symbol" a_Unpacker_next_symbol
  M_Unpacker_take_byte : Meth K C_Unpacker "take_byte" a_Unpacker_take_byte
  M_Unpacker_take_back : Meth K C_Unpacker "take_back" a_Unpacker_take_back
  M_Unpacker_is_good : Meth K C_Unpacker "is_good" a_Unpacker_is_good
  C_BadBits : Addr
  C_BadTable : Addr
  g_BadBits : mg "BadBits" = some (.ref C_BadBits)
  k_BadBits : PySem.W.keepIn K (.ref C_BadBits) = true
  b_BadBits : PySem.W.subIn K (.ref C_BadBits) (.type "BaseException") = some true
  t_BadBits : PySem.W.typeIn K (.ref C_BadBits) = some (.type "type")
  i_BadBits : PySem.W.isClsIn K C_BadBits = true
  x_BadBits : PySem.W.excIn K C_BadBits [.type "ValueError", .type "Exception", .type "BaseException", .type "object"] "ValueError.__new__" = true
  gb_BadBits : PySem.W.findIn K (.ref C_BadBits) "__getattribute__" = some (some (.builtin "BaseException.__getattribute__"))
  gg_BadBits : PySem.W.findIn K (.ref C_BadBits) "__getattr__" = some none
  hd_BadBits : PySem.W.hasDictIn K C_BadBits = true
  ca_BadBits : PySem.W.findIn K (.ref C_BadBits) "__class__" = some (some (.builtin "object.__class__"))
  cn_BadBits : PySem.W.specialIn K (.builtin "object.__class__") "__get__" = some (some (.builtin "getset_descriptor.__get__"))
  ct_BadBits : PySem.W.takesIn K (.builtin "object.__class__") = some true
  cm_BadBits : PySem.W.mroIn K C_BadBits (.type "object") = some true
  xc_BadBits : ExcC K C_BadBits
  g_BadTable : mg "BadTable" = some (.ref C_BadTable)
  k_BadTable : PySem.W.keepIn K (.ref C_BadTable) = true
  b_BadTable : PySem.W.subIn K (.ref C_BadTable) (.type "BaseException") = some true
  t_BadTable : PySem.W.typeIn K (.ref C_BadTable) = some (.type "type")
  i_BadTable : PySem.W.isClsIn K C_BadTable = true
  x_BadTable : PySem.W.excIn K C_BadTable [.type "ValueError", .type "Exception", .type "BaseException", .type "object"] "ValueError.__new__" = true
  gb_BadTable : PySem.W.findIn K (.ref C_BadTable) "__getattribute__" = some (some (.builtin "BaseException.__getattribute__"))
  gg_BadTable : PySem.W.findIn K (.ref C_BadTable) "__getattr__" = some none
  hd_BadTable : PySem.W.hasDictIn K C_BadTable = true
  ca_BadTable : PySem.W.findIn K (.ref C_BadTable) "__class__" = some (some (.builtin "object.__class__"))
  cn_BadTable : PySem.W.specialIn K (.builtin "object.__class__") "__get__" = some (some (.builtin "getset_descriptor.__get__"))
  ct_BadTable : PySem.W.takesIn K (.builtin "object.__class__") = some true
  cm_BadTable : PySem.W.mroIn K C_BadTable (.type "object") = some true
  xc_BadTable : ExcC K C_BadTable
  z_all : mg "all" = none
  z_any : mg "any" = none
  z_bool : mg "bool" = none
  z_dict : mg "dict" = none
  z_enumerate : mg "enumerate" = none
  z_int : mg "int" = none
  z_isinstance : mg "isinstance" = none
  z_len : mg "len" = none
  z_list : mg "list" = none
  z_max : mg "max" = none
  z_min : mg "min" = none
  z_range : mg "range" = none
  z_sorted : mg "sorted" = none
  z_str : mg "str" = none
  z_sum : mg "sum" = none
  u_MOST_BITS : Value
  m_MOST_BITS : mg "MOST_BITS" = some u_MOST_BITS
  r_MOST_BITS : RelV (.int 64) u_MOST_BITS
  u_BEGIN : Value
  m_BEGIN : mg "BEGIN" = some u_BEGIN
  r_BEGIN : RelV (.int 65535) u_BEGIN
  u_FEED : Value
  m_FEED : mg "FEED" = some u_FEED
  r_FEED : RelV (.int 4129) u_FEED
  u_TOP : Value
  m_TOP : mg "TOP" = some u_TOP
  r_TOP : RelV (.int 32768) u_TOP
  u_MOST_SYMBOLS : Value
  m_MOST_SYMBOLS : mg "MOST_SYMBOLS" = some u_MOST_SYMBOLS
  r_MOST_SYMBOLS : RelV (.int 64) u_MOST_SYMBOLS
  u_LONGEST : Value
  m_LONGEST : mg "LONGEST" = some u_LONGEST
  r_LONGEST : RelV (.int 15) u_LONGEST
  u_MARK : Addr
  m_MARK : mg "MARK" = some (.ref u_MARK)
  r_MARK : Y.KL K u_MARK (List.map V.int [165, 90])
  u_SYMBOLS : Value
  m_SYMBOLS : mg "SYMBOLS" = some u_SYMBOLS
  r_SYMBOLS : RelV (.int 33) u_SYMBOLS
  u_BACK : Value
  m_BACK : mg "BACK" = some u_BACK
  r_BACK : RelV (.int 32) u_BACK
  u_TABLE_BYTES : Value
  m_TABLE_BYTES : mg "TABLE_BYTES" = some u_TABLE_BYTES
  r_TABLE_BYTES : RelV (.int 17) u_TABLE_BYTES
  u_MOST_NUMBER : Value
  m_MOST_NUMBER : mg "MOST_NUMBER" = some u_MOST_NUMBER
  r_MOST_NUMBER : RelV (.int 254) u_MOST_NUMBER
  u_PLAIN : Value
  m_PLAIN : mg "PLAIN" = some u_PLAIN
  r_PLAIN : RelV (.int 0) u_PLAIN
  u_PACKED : Value
  m_PACKED : mg "PACKED" = some u_PACKED
  r_PACKED : RelV (.int 1) u_PACKED
def fs_Reader (x0 x1 : V) : List (Str × V) := [("bytes", x0), ("next", x1)]
theorem rd_Reader_bytes {K : PySem.W.Frag} {mg : Str → Option Value} (T : Tx K mg) {H : Hp} {p dx : Addr} {x0 x1 : V} (ho : H p = some (.ins T.C_Reader dx (fs_Reader x0 x1))) {Q : VK} (h : Q x0 H) : rFld K "bytes" (.ref p) H Q := ⟨p, _, dx, _, _, rfl, ho, T.cl_Reader, T.n_Reader_bytes, lkf_hd, h⟩
theorem pt_Reader_bytes {x0 x1 y : V} : putF "bytes" y (fs_Reader x0 x1) = fs_Reader y x1 := ptf_hd
theorem wr_Reader_bytes {K : PySem.W.Frag} {mg : Str → Option Value} (T : Tx K mg) {H : Hp} {p dx : Addr} {x0 x1 : V} (ho : H p = some (.ins T.C_Reader dx (fs_Reader x0 x1))) {y : V} {R : Hp → Prop} (h : R (upd H p (.ins T.C_Reader dx (fs_Reader y x1)))) : wFld K "bytes" (.ref p) y H R := ⟨p, _, dx, _, rfl, ho, T.cl_Reader, T.n_Reader_bytes, (by show 2 < 1000; decide), by rw [pt_Reader_bytes]; exact h⟩
theorem ba_Reader_bytes {K : PySem.W.Frag} {mg : Str → Option Value} (T : Tx K mg) {H : Hp} {p dx : Addr} {x0 x1 : V} (ho : H p = some (.ins T.C_Reader dx (fs_Reader x0 x1))) {R : Addr → Addr → V → Hp → Prop} (h : R p T.C_Reader x0 H) : bFld K "bytes" (.ref p) H R := ⟨p, _, dx, _, _, rfl, ho, T.cl_Reader, T.n_Reader_bytes, lkf_hd, h⟩
theorem aw_Reader_bytes {K : PySem.W.Frag} {mg : Str → Option Value} (T : Tx K mg) {H : Hp} {p dx : Addr} {x0 x1 : V} (ho : H p = some (.ins T.C_Reader dx (fs_Reader x0 x1))) {y : V} {R : Hp → Prop} (h : R (upd H p (.ins T.C_Reader dx (fs_Reader y x1)))) : aFld p T.C_Reader "bytes" y H R := ⟨dx, _, ho, (by show 2 < 1000; decide), by rw [pt_Reader_bytes]; exact h⟩
theorem iw_Reader_bytes {K : PySem.W.Frag} {mg : Str → Option Value} (T : Tx K mg) {H : Hp} {p dx : Addr} { y : V} (ho : H p = some (.ins T.C_Reader dx [])) {R : Hp → Prop} (h : R (upd H p (.ins T.C_Reader dx [("bytes", y)]))) : wFld K "bytes" (.ref p) y H R := ⟨p, _, dx, _, rfl, ho, T.cl_Reader, T.n_Reader_bytes, (by show 0 < 1000; decide), by rw [show putF "bytes" y ([] : List (Str × V)) = ([("bytes", y)] : List (Str × V)) from ptf_nil]; exact h⟩
theorem rd_Reader_next {K : PySem.W.Frag} {mg : Str → Option Value} (T : Tx K mg) {H : Hp} {p dx : Addr} {x0 x1 : V} (ho : H p = some (.ins T.C_Reader dx (fs_Reader x0 x1))) {Q : VK} (h : Q x1 H) : rFld K "next" (.ref p) H Q := ⟨p, _, dx, _, _, rfl, ho, T.cl_Reader, T.n_Reader_next, lkf_tl (by decide +kernel) (lkf_hd), h⟩
theorem pt_Reader_next {x0 x1 y : V} : putF "next" y (fs_Reader x0 x1) = fs_Reader x0 y := ptf_tl (by decide +kernel) (ptf_hd)
theorem wr_Reader_next {K : PySem.W.Frag} {mg : Str → Option Value} (T : Tx K mg) {H : Hp} {p dx : Addr} {x0 x1 : V} (ho : H p = some (.ins T.C_Reader dx (fs_Reader x0 x1))) {y : V} {R : Hp → Prop} (h : R (upd H p (.ins T.C_Reader dx (fs_Reader x0 y)))) : wFld K "next" (.ref p) y H R := ⟨p, _, dx, _, rfl, ho, T.cl_Reader, T.n_Reader_next, (by show 2 < 1000; decide), by rw [pt_Reader_next]; exact h⟩
theorem ba_Reader_next {K : PySem.W.Frag} {mg : Str → Option Value} (T : Tx K mg) {H : Hp} {p dx : Addr} {x0 x1 : V} (ho : H p = some (.ins T.C_Reader dx (fs_Reader x0 x1))) {R : Addr → Addr → V → Hp → Prop} (h : R p T.C_Reader x1 H) : bFld K "next" (.ref p) H R := ⟨p, _, dx, _, _, rfl, ho, T.cl_Reader, T.n_Reader_next, lkf_tl (by decide +kernel) (lkf_hd), h⟩
theorem aw_Reader_next {K : PySem.W.Frag} {mg : Str → Option Value} (T : Tx K mg) {H : Hp} {p dx : Addr} {x0 x1 : V} (ho : H p = some (.ins T.C_Reader dx (fs_Reader x0 x1))) {y : V} {R : Hp → Prop} (h : R (upd H p (.ins T.C_Reader dx (fs_Reader x0 y)))) : aFld p T.C_Reader "next" y H R := ⟨dx, _, ho, (by show 2 < 1000; decide), by rw [pt_Reader_next]; exact h⟩
theorem iw_Reader_next {K : PySem.W.Frag} {mg : Str → Option Value} (T : Tx K mg) {H : Hp} {p dx : Addr} {x0 y : V} (ho : H p = some (.ins T.C_Reader dx [("bytes", x0)])) {R : Hp → Prop} (h : R (upd H p (.ins T.C_Reader dx [("bytes", x0), ("next", y)]))) : wFld K "next" (.ref p) y H R := ⟨p, _, dx, _, rfl, ho, T.cl_Reader, T.n_Reader_next, (by show 1 < 1000; decide), by rw [show putF "next" y ([("bytes", x0)] : List (Str × V)) = ([("bytes", x0), ("next", y)] : List (Str × V)) from ptf_tl (by decide +kernel) (ptf_nil)]; exact h⟩
theorem mt_Reader_left {K : PySem.W.Frag} {mg : Str → Option Value} (T : Tx K mg) {H : Hp} {p dx : Addr} {x0 x1 : V} (ho : H p = some (.ins T.C_Reader dx (fs_Reader x0 x1))) {R : V → Hp → Prop} (h : R (.ref p) H) : rMeth T.C_Reader "left" R (.ref p) H := z_methR ho (lkf_tl (by decide +kernel) (lkf_tl (by decide +kernel) (lkf_nil))) h
theorem mt_Reader_take {K : PySem.W.Frag} {mg : Str → Option Value} (T : Tx K mg) {H : Hp} {p dx : Addr} {x0 x1 : V} (ho : H p = some (.ins T.C_Reader dx (fs_Reader x0 x1))) {R : V → Hp → Prop} (h : R (.ref p) H) : rMeth T.C_Reader "take" R (.ref p) H := z_methR ho (lkf_tl (by decide +kernel) (lkf_tl (by decide +kernel) (lkf_nil))) h
theorem mt_Reader_place {K : PySem.W.Frag} {mg : Str → Option Value} (T : Tx K mg) {H : Hp} {p dx : Addr} {x0 x1 : V} (ho : H p = some (.ins T.C_Reader dx (fs_Reader x0 x1))) {R : V → Hp → Prop} (h : R (.ref p) H) : rMeth T.C_Reader "place" R (.ref p) H := z_methR ho (lkf_tl (by decide +kernel) (lkf_tl (by decide +kernel) (lkf_nil))) h
theorem mt_Reader_ended {K : PySem.W.Frag} {mg : Str → Option Value} (T : Tx K mg) {H : Hp} {p dx : Addr} {x0 x1 : V} (ho : H p = some (.ins T.C_Reader dx (fs_Reader x0 x1))) {R : V → Hp → Prop} (h : R (.ref p) H) : rMeth T.C_Reader "ended" R (.ref p) H := z_methR ho (lkf_tl (by decide +kernel) (lkf_tl (by decide +kernel) (lkf_nil))) h
def fs_Unpacker (x0 x1 x2 x3 : V) : List (Str × V) := [("reader", x0), ("many", x1), ("made", x2), ("known", x3)]
theorem rd_Unpacker_reader {K : PySem.W.Frag} {mg : Str → Option Value} (T : Tx K mg) {H : Hp} {p dx : Addr} {x0 x1 x2 x3 : V} (ho : H p = some (.ins T.C_Unpacker dx (fs_Unpacker x0 x1 x2 x3))) {Q : VK} (h : Q x0 H) : rFld K "reader" (.ref p) H Q := ⟨p, _, dx, _, _, rfl, ho, T.cl_Unpacker, T.n_Unpacker_reader, lkf_hd, h⟩
theorem pt_Unpacker_reader {x0 x1 x2 x3 y : V} : putF "reader" y (fs_Unpacker x0 x1 x2 x3) = fs_Unpacker y x1 x2 x3 := ptf_hd
theorem wr_Unpacker_reader {K : PySem.W.Frag} {mg : Str → Option Value} (T : Tx K mg) {H : Hp} {p dx : Addr} {x0 x1 x2 x3 : V} (ho : H p = some (.ins T.C_Unpacker dx (fs_Unpacker x0 x1 x2 x3))) {y : V} {R : Hp → Prop} (h : R (upd H p (.ins T.C_Unpacker dx (fs_Unpacker y x1 x2 x3)))) : wFld K "reader" (.ref p) y H R := ⟨p, _, dx, _, rfl, ho, T.cl_Unpacker, T.n_Unpacker_reader, (by show 4 < 1000; decide), by rw [pt_Unpacker_reader]; exact h⟩
theorem ba_Unpacker_reader {K : PySem.W.Frag} {mg : Str → Option Value} (T : Tx K mg) {H : Hp} {p dx : Addr} {x0 x1 x2 x3 : V} (ho : H p = some (.ins T.C_Unpacker dx (fs_Unpacker x0 x1 x2 x3))) {R : Addr → Addr → V → Hp → Prop} (h : R p T.C_Unpacker x0 H) : bFld K "reader" (.ref p) H R := ⟨p, _, dx, _, _, rfl, ho, T.cl_Unpacker, T.n_Unpacker_reader, lkf_hd, h⟩
theorem aw_Unpacker_reader {K : PySem.W.Frag} {mg : Str → Option Value} (T : Tx K mg) {H : Hp} {p dx : Addr} {x0 x1 x2 x3 : V} (ho : H p = some (.ins T.C_Unpacker dx (fs_Unpacker x0 x1 x2 x3))) {y : V} {R : Hp → Prop} (h : R (upd H p (.ins T.C_Unpacker dx (fs_Unpacker y x1 x2 x3)))) : aFld p T.C_Unpacker "reader" y H R := ⟨dx, _, ho, (by show 4 < 1000; decide), by rw [pt_Unpacker_reader]; exact h⟩
theorem iw_Unpacker_reader {K : PySem.W.Frag} {mg : Str → Option Value} (T : Tx K mg) {H : Hp} {p dx : Addr} { y : V} (ho : H p = some (.ins T.C_Unpacker dx [])) {R : Hp → Prop} (h : R (upd H p (.ins T.C_Unpacker dx [("reader", y)]))) : wFld K "reader" (.ref p) y H R := ⟨p, _, dx, _, rfl, ho, T.cl_Unpacker, T.n_Unpacker_reader, (by show 0 < 1000; decide), by rw [show putF "reader" y ([] : List (Str × V)) = ([("reader", y)] : List (Str × V)) from ptf_nil]; exact h⟩
theorem rd_Unpacker_many {K : PySem.W.Frag} {mg : Str → Option Value} (T : Tx K mg) {H : Hp} {p dx : Addr} {x0 x1 x2 x3 : V} (ho : H p = some (.ins T.C_Unpacker dx (fs_Unpacker x0 x1 x2 x3))) {Q : VK} (h : Q x1 H) : rFld K "many" (.ref p) H Q := ⟨p, _, dx, _, _, rfl, ho, T.cl_Unpacker, T.n_Unpacker_many, lkf_tl (by decide +kernel) (lkf_hd), h⟩
theorem pt_Unpacker_many {x0 x1 x2 x3 y : V} : putF "many" y (fs_Unpacker x0 x1 x2 x3) = fs_Unpacker x0 y x2 x3 := ptf_tl (by decide +kernel) (ptf_hd)
theorem wr_Unpacker_many {K : PySem.W.Frag} {mg : Str → Option Value} (T : Tx K mg) {H : Hp} {p dx : Addr} {x0 x1 x2 x3 : V} (ho : H p = some (.ins T.C_Unpacker dx (fs_Unpacker x0 x1 x2 x3))) {y : V} {R : Hp → Prop} (h : R (upd H p (.ins T.C_Unpacker dx (fs_Unpacker x0 y x2 x3)))) : wFld K "many" (.ref p) y H R := ⟨p, _, dx, _, rfl, ho, T.cl_Unpacker, T.n_Unpacker_many, (by show 4 < 1000; decide), by rw [pt_Unpacker_many]; exact h⟩
theorem ba_Unpacker_many {K : PySem.W.Frag} {mg : Str → Option Value} (T : Tx K mg) {H : Hp} {p dx : Addr} {x0 x1 x2 x3 : V} (ho : H p = some (.ins T.C_Unpacker dx (fs_Unpacker x0 x1 x2 x3))) {R : Addr → Addr → V → Hp → Prop} (h : R p T.C_Unpacker x1 H) : bFld K "many" (.ref p) H R := ⟨p, _, dx, _, _, rfl, ho, T.cl_Unpacker, T.n_Unpacker_many, lkf_tl (by decide +kernel) (lkf_hd), h⟩
theorem aw_Unpacker_many {K : PySem.W.Frag} {mg : Str → Option Value} (T : Tx K mg) {H : Hp} {p dx : Addr} {x0 x1 x2 x3 : V} (ho : H p = some (.ins T.C_Unpacker dx (fs_Unpacker x0 x1 x2 x3))) {y : V} {R : Hp → Prop} (h : R (upd H p (.ins T.C_Unpacker dx (fs_Unpacker x0 y x2 x3)))) : aFld p T.C_Unpacker "many" y H R := ⟨dx, _, ho, (by show 4 < 1000; decide), by rw [pt_Unpacker_many]; exact h⟩
theorem iw_Unpacker_many {K : PySem.W.Frag} {mg : Str → Option Value} (T : Tx K mg) {H : Hp} {p dx : Addr} {x0 y : V} (ho : H p = some (.ins T.C_Unpacker dx [("reader", x0)])) {R : Hp → Prop} (h : R (upd H p (.ins T.C_Unpacker dx [("reader", x0), ("many", y)]))) : wFld K "many" (.ref p) y H R := ⟨p, _, dx, _, rfl, ho, T.cl_Unpacker, T.n_Unpacker_many, (by show 1 < 1000; decide), by rw [show putF "many" y ([("reader", x0)] : List (Str × V)) = ([("reader", x0), ("many", y)] : List (Str × V)) from ptf_tl (by decide +kernel) (ptf_nil)]; exact h⟩
theorem rd_Unpacker_made {K : PySem.W.Frag} {mg : Str → Option Value} (T : Tx K mg) {H : Hp} {p dx : Addr} {x0 x1 x2 x3 : V} (ho : H p = some (.ins T.C_Unpacker dx (fs_Unpacker x0 x1 x2 x3))) {Q : VK} (h : Q x2 H) : rFld K "made" (.ref p) H Q := ⟨p, _, dx, _, _, rfl, ho, T.cl_Unpacker, T.n_Unpacker_made, lkf_tl (by decide +kernel) (lkf_tl (by decide +kernel) (lkf_hd)), h⟩
theorem pt_Unpacker_made {x0 x1 x2 x3 y : V} : putF "made" y (fs_Unpacker x0 x1 x2 x3) = fs_Unpacker x0 x1 y x3 := ptf_tl (by decide +kernel) (ptf_tl (by decide +kernel) (ptf_hd))
theorem wr_Unpacker_made {K : PySem.W.Frag} {mg : Str → Option Value} (T : Tx K mg) {H : Hp} {p dx : Addr} {x0 x1 x2 x3 : V} (ho : H p = some (.ins T.C_Unpacker dx (fs_Unpacker x0 x1 x2 x3))) {y : V} {R : Hp → Prop} (h : R (upd H p (.ins T.C_Unpacker dx (fs_Unpacker x0 x1 y x3)))) : wFld K "made" (.ref p) y H R := ⟨p, _, dx, _, rfl, ho, T.cl_Unpacker, T.n_Unpacker_made, (by show 4 < 1000; decide), by rw [pt_Unpacker_made]; exact h⟩
theorem ba_Unpacker_made {K : PySem.W.Frag} {mg : Str → Option Value} (T : Tx K mg) {H : Hp} {p dx : Addr} {x0 x1 x2 x3 : V} (ho : H p = some (.ins T.C_Unpacker dx (fs_Unpacker x0 x1 x2 x3))) {R : Addr → Addr → V → Hp → Prop} (h : R p T.C_Unpacker x2 H) : bFld K "made" (.ref p) H R := ⟨p, _, dx, _, _, rfl, ho, T.cl_Unpacker, T.n_Unpacker_made, lkf_tl (by decide +kernel) (lkf_tl (by decide +kernel) (lkf_hd)), h⟩
theorem aw_Unpacker_made {K : PySem.W.Frag} {mg : Str → Option Value} (T : Tx K mg) {H : Hp} {p dx : Addr} {x0 x1 x2 x3 : V} (ho : H p = some (.ins T.C_Unpacker dx (fs_Unpacker x0 x1 x2 x3))) {y : V} {R : Hp → Prop} (h : R (upd H p (.ins T.C_Unpacker dx (fs_Unpacker x0 x1 y x3)))) : aFld p T.C_Unpacker "made" y H R := ⟨dx, _, ho, (by show 4 < 1000; decide), by rw [pt_Unpacker_made]; exact h⟩
theorem iw_Unpacker_made {K : PySem.W.Frag} {mg : Str → Option Value} (T : Tx K mg) {H : Hp} {p dx : Addr} {x0 x1 y : V} (ho : H p = some (.ins T.C_Unpacker dx [("reader", x0), ("many", x1)])) {R : Hp → Prop} (h : R (upd H p (.ins T.C_Unpacker dx [("reader", x0), ("many", x1), ("made", y)]))) : wFld K "made" (.ref p) y H R := ⟨p, _, dx, _, rfl, ho, T.cl_Unpacker, T.n_Unpacker_made, (by show 2 < 1000; decide), by rw [show putF "made" y ([("reader", x0), ("many", x1)] : List (Str × V)) = ([("reader", x0), ("many", x1), ("made", y)] : List (Str × V)) from ptf_tl (by decide +kernel) (ptf_tl (by decide +kernel) (ptf_nil))]; exact h⟩
theorem rd_Unpacker_known {K : PySem.W.Frag} {mg : Str → Option Value} (T : Tx K mg) {H : Hp} {p dx : Addr} {x0 x1 x2 x3 : V} (ho : H p = some (.ins T.C_Unpacker dx (fs_Unpacker x0 x1 x2 x3))) {Q : VK} (h : Q x3 H) : rFld K "known" (.ref p) H Q := ⟨p, _, dx, _, _, rfl, ho, T.cl_Unpacker, T.n_Unpacker_known, lkf_tl (by decide +kernel) (lkf_tl (by decide +kernel) (lkf_tl (by decide +kernel) (lkf_hd))), h⟩
theorem pt_Unpacker_known {x0 x1 x2 x3 y : V} : putF "known" y (fs_Unpacker x0 x1 x2 x3) = fs_Unpacker x0 x1 x2 y := ptf_tl (by decide +kernel) (ptf_tl (by decide +kernel) (ptf_tl (by decide +kernel) (ptf_hd)))
theorem wr_Unpacker_known {K : PySem.W.Frag} {mg : Str → Option Value} (T : Tx K mg) {H : Hp} {p dx : Addr} {x0 x1 x2 x3 : V} (ho : H p = some (.ins T.C_Unpacker dx (fs_Unpacker x0 x1 x2 x3))) {y : V} {R : Hp → Prop} (h : R (upd H p (.ins T.C_Unpacker dx (fs_Unpacker x0 x1 x2 y)))) : wFld K "known" (.ref p) y H R := ⟨p, _, dx, _, rfl, ho, T.cl_Unpacker, T.n_Unpacker_known, (by show 4 < 1000; decide), by rw [pt_Unpacker_known]; exact h⟩
theorem ba_Unpacker_known {K : PySem.W.Frag} {mg : Str → Option Value} (T : Tx K mg) {H : Hp} {p dx : Addr} {x0 x1 x2 x3 : V} (ho : H p = some (.ins T.C_Unpacker dx (fs_Unpacker x0 x1 x2 x3))) {R : Addr → Addr → V → Hp → Prop} (h : R p T.C_Unpacker x3 H) : bFld K "known" (.ref p) H R := ⟨p, _, dx, _, _, rfl, ho, T.cl_Unpacker, T.n_Unpacker_known, lkf_tl (by decide +kernel) (lkf_tl (by decide +kernel) (lkf_tl (by decide +kernel) (lkf_hd))), h⟩
theorem aw_Unpacker_known {K : PySem.W.Frag} {mg : Str → Option Value} (T : Tx K mg) {H : Hp} {p dx : Addr} {x0 x1 x2 x3 : V} (ho : H p = some (.ins T.C_Unpacker dx (fs_Unpacker x0 x1 x2 x3))) {y : V} {R : Hp → Prop} (h : R (upd H p (.ins T.C_Unpacker dx (fs_Unpacker x0 x1 x2 y)))) : aFld p T.C_Unpacker "known" y H R := ⟨dx, _, ho, (by show 4 < 1000; decide), by rw [pt_Unpacker_known]; exact h⟩
theorem iw_Unpacker_known {K : PySem.W.Frag} {mg : Str → Option Value} (T : Tx K mg) {H : Hp} {p dx : Addr} {x0 x1 x2 y : V} (ho : H p = some (.ins T.C_Unpacker dx [("reader", x0), ("many", x1), ("made", x2)])) {R : Hp → Prop} (h : R (upd H p (.ins T.C_Unpacker dx [("reader", x0), ("many", x1), ("made", x2), ("known", y)]))) : wFld K "known" (.ref p) y H R := ⟨p, _, dx, _, rfl, ho, T.cl_Unpacker, T.n_Unpacker_known, (by show 3 < 1000; decide), by rw [show putF "known" y ([("reader", x0), ("many", x1), ("made", x2)] : List (Str × V)) = ([("reader", x0), ("many", x1), ("made", x2), ("known", y)] : List (Str × V)) from ptf_tl (by decide +kernel) (ptf_tl (by decide +kernel) (ptf_tl (by decide +kernel) (ptf_nil)))]; exact h⟩
theorem mt_Unpacker_next_symbol {K : PySem.W.Frag} {mg : Str → Option Value} (T : Tx K mg) {H : Hp} {p dx : Addr} {x0 x1 x2 x3 : V} (ho : H p = some (.ins T.C_Unpacker dx (fs_Unpacker x0 x1 x2 x3))) {R : V → Hp → Prop} (h : R (.ref p) H) : rMeth T.C_Unpacker "next_symbol" R (.ref p) H := z_methR ho (lkf_tl (by decide +kernel) (lkf_tl (by decide +kernel) (lkf_tl (by decide +kernel) (lkf_tl (by decide +kernel) (lkf_nil))))) h
theorem mt_Unpacker_take_byte {K : PySem.W.Frag} {mg : Str → Option Value} (T : Tx K mg) {H : Hp} {p dx : Addr} {x0 x1 x2 x3 : V} (ho : H p = some (.ins T.C_Unpacker dx (fs_Unpacker x0 x1 x2 x3))) {R : V → Hp → Prop} (h : R (.ref p) H) : rMeth T.C_Unpacker "take_byte" R (.ref p) H := z_methR ho (lkf_tl (by decide +kernel) (lkf_tl (by decide +kernel) (lkf_tl (by decide +kernel) (lkf_tl (by decide +kernel) (lkf_nil))))) h
theorem mt_Unpacker_take_back {K : PySem.W.Frag} {mg : Str → Option Value} (T : Tx K mg) {H : Hp} {p dx : Addr} {x0 x1 x2 x3 : V} (ho : H p = some (.ins T.C_Unpacker dx (fs_Unpacker x0 x1 x2 x3))) {R : V → Hp → Prop} (h : R (.ref p) H) : rMeth T.C_Unpacker "take_back" R (.ref p) H := z_methR ho (lkf_tl (by decide +kernel) (lkf_tl (by decide +kernel) (lkf_tl (by decide +kernel) (lkf_tl (by decide +kernel) (lkf_nil))))) h
theorem mt_Unpacker_is_good {K : PySem.W.Frag} {mg : Str → Option Value} (T : Tx K mg) {H : Hp} {p dx : Addr} {x0 x1 x2 x3 : V} (ho : H p = some (.ins T.C_Unpacker dx (fs_Unpacker x0 x1 x2 x3))) {R : V → Hp → Prop} (h : R (.ref p) H) : rMeth T.C_Unpacker "is_good" R (.ref p) H := z_methR ho (lkf_tl (by decide +kernel) (lkf_tl (by decide +kernel) (lkf_tl (by decide +kernel) (lkf_tl (by decide +kernel) (lkf_nil))))) h
local macro_rules | `(tactic| walk_at "z1") => `(tactic| first
  | ((with_reducible show Z.rFld _ _ _ _ _); first
    | ((with_reducible apply rd_Reader_bytes); (focus (· walk_at "lk")))
    | ((with_reducible apply rd_Reader_next); (focus (· walk_at "lk")))
    | ((with_reducible apply rd_Unpacker_reader); (focus (· walk_at "lk")))
    | ((with_reducible apply rd_Unpacker_many); (focus (· walk_at "lk")))
    | ((with_reducible apply rd_Unpacker_made); (focus (· walk_at "lk")))
    | ((with_reducible apply rd_Unpacker_known); (focus (· walk_at "lk"))))
  | ((with_reducible show Z.wFld _ _ _ _ _ _); first
    | ((with_reducible apply wr_Reader_bytes); (focus (· walk_at "lk")))
    | ((with_reducible apply iw_Reader_bytes); (focus (· walk_at "lk")))
    | ((with_reducible apply wr_Reader_next); (focus (· walk_at "lk")))
    | ((with_reducible apply iw_Reader_next); (focus (· walk_at "lk")))
    | ((with_reducible apply wr_Unpacker_reader); (focus (· walk_at "lk")))
    | ((with_reducible apply iw_Unpacker_reader); (focus (· walk_at "lk")))
    | ((with_reducible apply wr_Unpacker_many); (focus (· walk_at "lk")))
    | ((with_reducible apply iw_Unpacker_many); (focus (· walk_at "lk")))
    | ((with_reducible apply wr_Unpacker_made); (focus (· walk_at "lk")))
    | ((with_reducible apply iw_Unpacker_made); (focus (· walk_at "lk")))
    | ((with_reducible apply wr_Unpacker_known); (focus (· walk_at "lk")))
    | ((with_reducible apply iw_Unpacker_known); (focus (· walk_at "lk"))))
  | ((with_reducible show Z.bFld _ _ _ _ _); first
    | ((with_reducible apply ba_Reader_bytes); (focus (· walk_at "lk")))
    | ((with_reducible apply ba_Reader_next); (focus (· walk_at "lk")))
    | ((with_reducible apply ba_Unpacker_reader); (focus (· walk_at "lk")))
    | ((with_reducible apply ba_Unpacker_many); (focus (· walk_at "lk")))
    | ((with_reducible apply ba_Unpacker_made); (focus (· walk_at "lk")))
    | ((with_reducible apply ba_Unpacker_known); (focus (· walk_at "lk"))))
  | ((with_reducible show Z.aFld _ _ _ _ _ _); first
    | ((with_reducible apply aw_Reader_bytes); (focus (· walk_at "lk")))
    | ((with_reducible apply aw_Reader_next); (focus (· walk_at "lk")))
    | ((with_reducible apply aw_Unpacker_reader); (focus (· walk_at "lk")))
    | ((with_reducible apply aw_Unpacker_many); (focus (· walk_at "lk")))
    | ((with_reducible apply aw_Unpacker_made); (focus (· walk_at "lk")))
    | ((with_reducible apply aw_Unpacker_known); (focus (· walk_at "lk"))))
  | ((with_reducible show Z.rMeth _ _ _ _ _); first
    | ((with_reducible apply mt_Reader_left); (focus (· walk_at "lk")))
    | ((with_reducible apply mt_Reader_take); (focus (· walk_at "lk")))
    | ((with_reducible apply mt_Reader_place); (focus (· walk_at "lk")))
    | ((with_reducible apply mt_Reader_ended); (focus (· walk_at "lk")))
    | ((with_reducible apply mt_Unpacker_next_symbol); (focus (· walk_at "lk")))
    | ((with_reducible apply mt_Unpacker_take_byte); (focus (· walk_at "lk")))
    | ((with_reducible apply mt_Unpacker_take_back); (focus (· walk_at "lk")))
    | ((with_reducible apply mt_Unpacker_is_good); (focus (· walk_at "lk")))))
def ctT {K : PySem.W.Frag} {mg : Str → Option Value} (T : Tx K mg) : Ct := ⟨fun n => match n with
  | 1 => T.C_BadBits
  | 2 => T.C_BadTable
  | 3 => T.C_Reader
  | 4 => T.C_Unpacker
  | _ => 0, none, none⟩
def zHfnZ : He.FnD := ⟨("is_whole_bits", none), "is_whole", "is_whole", defArgs s_is_whole_bits, defBody s_is_whole_bits, defScope s_is_whole_bits⟩
def zHfn0 : List He.FnD := [⟨("is_whole_bits", none), "is_whole", "is_whole", defArgs s_is_whole_bits, defBody s_is_whole_bits, defScope s_is_whole_bits⟩,
  ⟨("refuse_unless", none), "refuse_unless", "refuse_unless", defArgs s_refuse_unless, defBody s_refuse_unless, defScope s_refuse_unless⟩,
  ⟨("Reader", some "left"), "left", "Reader.left", defArgs s_Reader_left, defBody s_Reader_left, defScope s_Reader_left⟩,
  ⟨("Reader", some "take"), "take", "Reader.take", defArgs s_Reader_take, defBody s_Reader_take, defScope s_Reader_take⟩,
  ⟨("Reader", some "place"), "place", "Reader.place", defArgs s_Reader_place, defBody s_Reader_place, defScope s_Reader_place⟩,
  ⟨("Reader", some "ended"), "ended", "Reader.ended", defArgs s_Reader_ended, defBody s_Reader_ended, defScope s_Reader_ended⟩,
  ⟨("crc_on", none), "crc_on", "crc_on", defArgs s_crc_on, defBody s_crc_on, defScope s_crc_on⟩,
  ⟨("crc", none), "crc", "crc", defArgs s_crc, defBody s_crc, defScope s_crc⟩,
  ⟨("crc_row", none), "crc_row", "crc_row", defArgs s_crc_row, defBody s_crc_row, defScope s_crc_row⟩,
  ⟨("is_whole_tables", none), "is_whole", "is_whole", defArgs s_is_whole_tables, defBody s_is_whole_tables, defScope s_is_whole_tables⟩,
  ⟨("is_list_of", none), "is_list_of", "is_list_of", defArgs s_is_list_of, defBody s_is_list_of, defScope s_is_list_of⟩,
  ⟨("room_of", none), "room_of", "room_of", defArgs s_room_of, defBody s_room_of, defScope s_room_of⟩,
  ⟨("fits", none), "fits", "fits", defArgs s_fits, defBody s_fits, defScope s_fits⟩,
  ⟨("check_lengths", none), "check_lengths", "check_lengths", defArgs s_check_lengths, defBody s_check_lengths, defScope s_check_lengths⟩,
  ⟨("words_of", none), "words_of", "words_of", defArgs s_words_of, defBody s_words_of, defScope s_words_of⟩,
  ⟨("Unpacker", some "__init__"), "__init__", "Unpacker.__init__", defArgs s_Unpacker_init, defBody s_Unpacker_init, defScope s_Unpacker_init⟩,
  ⟨("Unpacker", some "next_symbol"), "next_symbol", "Unpacker.next_symbol", defArgs s_Unpacker_next_symbol, defBody s_Unpacker_next_symbol, defScope s_Unpacker_next_symbol⟩,
  ⟨("Unpacker", some "take_byte"), "take_byte", "Unpacker.take_byte", defArgs s_Unpacker_take_byte, defBody s_Unpacker_take_byte, defScope s_Unpacker_take_byte⟩,
  ⟨("Unpacker", some "take_back"), "take_back", "Unpacker.take_back", defArgs s_Unpacker_take_back, defBody s_Unpacker_take_back, defScope s_Unpacker_take_back⟩,
  ⟨("Unpacker", some "is_good"), "is_good", "Unpacker.is_good", defArgs s_Unpacker_is_good, defBody s_Unpacker_is_good, defScope s_Unpacker_is_good⟩,
  ⟨("table_at", none), "table_at", "table_at", defArgs s_table_at, defBody s_table_at, defScope s_table_at⟩,
  ⟨("packed_at", none), "packed_at", "packed_at", defArgs s_packed_at, defBody s_packed_at, defScope s_packed_at⟩,
  ⟨("body_at", none), "body_at", "body_at", defArgs s_body_at, defBody s_body_at, defScope s_body_at⟩,
  ⟨("piece_at", none), "piece_at", "piece_at", defArgs s_piece_at, defBody s_piece_at, defScope s_piece_at⟩,
  ⟨("_law_draw", none), "_law_draw", "_law_draw", defArgs s_l_draw, defBody s_l_draw, defScope s_l_draw⟩,
  ⟨("_law_next", none), "_law_next", "_law_next", defArgs s_l_next, defBody s_l_next, defScope s_l_next⟩,
  ⟨("_law_sum", none), "_law_sum", "_law_sum", defArgs s_l_sum, defBody s_l_sum, defScope s_l_sum⟩,
  ⟨("_law_bytes", none), "_law_bytes", "_law_bytes", defArgs s_l_bytes, defBody s_l_bytes, defScope s_l_bytes⟩,
  ⟨("_law_bits", none), "_law_bits", "_law_bits", defArgs s_l_bits, defBody s_l_bits, defScope s_l_bits⟩,
  ⟨("_law_words", none), "_law_words", "_law_words", defArgs s_l_words, defBody s_l_words, defScope s_l_words⟩,
  ⟨("_law_room", none), "_law_room", "_law_room", defArgs s_l_room, defBody s_l_room, defScope s_l_room⟩,
  ⟨("_law_lengths", none), "_law_lengths", "_law_lengths", defArgs s_l_lengths, defBody s_l_lengths, defScope s_l_lengths⟩,
  ⟨("_law_overfull", none), "_law_overfull", "_law_overfull", defArgs s_l_overfull, defBody s_l_overfull, defScope s_l_overfull⟩,
  ⟨("_law_body", none), "_law_body", "_law_body", defArgs s_l_body, defBody s_l_body, defScope s_l_body⟩,
  ⟨("_law_piece", none), "_law_piece", "_law_piece", defArgs s_l_piece, defBody s_l_piece, defScope s_l_piece⟩,
  ⟨("_law_take", none), "_law_take", "_law_take", defArgs s_l_take, defBody s_l_take, defScope s_l_take⟩,
  ⟨("_law_unpacked", none), "_law_unpacked", "_law_unpacked", defArgs s_l_unpacked, defBody s_l_unpacked, defScope s_l_unpacked⟩,
  ⟨("_law_due", none), "_law_due", "_law_due", defArgs s_l_due, defBody s_l_due, defScope s_l_due⟩,
  ⟨("law", none), "law", "law", defArgs s_law, defBody s_law, defScope s_law⟩]
def zHfn : List He.FnD := zHfn0
def zHfdZ : He.DefD := ⟨("Reader", some "__init__"), "__init__", "Reader.__init__", defArgs s_Reader_init, defBody s_Reader_init, defScope s_Reader_init, [], []⟩
def zHfd0 : List He.DefD := [⟨("Reader", some "__init__"), "__init__", "Reader.__init__", defArgs s_Reader_init, defBody s_Reader_init, defScope s_Reader_init, [], []⟩]
def zHfd : List He.DefD := zHfd0
def zHx0 : List (PySem.W.Frag → Bool) := [fun K => Hd.dfAt K ("Reader", some "__init__") "Reader.__init__" [V.int 0],
  fun K => Hd.relAt K "MOST_BITS" (V.int 64),
  fun K => Hd.relAt K "BEGIN" (V.int 65535),
  fun K => Hd.relAt K "FEED" (V.int 4129),
  fun K => Hd.relAt K "TOP" (V.int 32768),
  fun K => Hd.relAt K "MOST_SYMBOLS" (V.int 64),
  fun K => Hd.relAt K "LONGEST" (V.int 15),
  fun K => Hd.seqAt K "MARK" "list" (List.map V.int [165, 90]),
  fun K => Hd.relAt K "SYMBOLS" (V.int 33),
  fun K => Hd.relAt K "BACK" (V.int 32),
  fun K => Hd.relAt K "TABLE_BYTES" (V.int 17),
  fun K => Hd.relAt K "MOST_NUMBER" (V.int 254),
  fun K => Hd.relAt K "PLAIN" (V.int 0),
  fun K => Hd.relAt K "PACKED" (V.int 1),
  fun K => decide (PySem.W.nsIn K mainGlobals "is_whole_bits" = some (some (.ref (He.fAd K ("is_whole_bits", none))))),
  fun K => PySem.W.keepIn K (.ref (He.fAd K ("is_whole_bits", none))),
  fun K => decide (PySem.W.nsIn K mainGlobals "refuse_unless" = some (some (.ref (He.fAd K ("refuse_unless", none))))),
  fun K => PySem.W.keepIn K (.ref (He.fAd K ("refuse_unless", none))),
  fun K => decide (PySem.W.findIn K (.ref (He.ga K "Reader")) "__init__" = some (some (.ref (He.fAd K ("Reader", some "__init__"))))),
  fun K => PySem.W.isFn K (.ref (He.fAd K ("Reader", some "__init__"))),
  fun K => PySem.W.keepIn K (.ref (He.fAd K ("Reader", some "__init__"))),
  fun K => decide (PySem.W.findIn K (.ref (He.ga K "Reader")) "left" = some (some (.ref (He.fAd K ("Reader", some "left"))))),
  fun K => PySem.W.isFn K (.ref (He.fAd K ("Reader", some "left"))),
  fun K => PySem.W.keepIn K (.ref (He.fAd K ("Reader", some "left"))),
  fun K => decide (PySem.W.findIn K (.ref (He.ga K "Reader")) "take" = some (some (.ref (He.fAd K ("Reader", some "take"))))),
  fun K => PySem.W.isFn K (.ref (He.fAd K ("Reader", some "take"))),
  fun K => PySem.W.keepIn K (.ref (He.fAd K ("Reader", some "take"))),
  fun K => decide (PySem.W.findIn K (.ref (He.ga K "Reader")) "place" = some (some (.ref (He.fAd K ("Reader", some "place"))))),
  fun K => PySem.W.isFn K (.ref (He.fAd K ("Reader", some "place"))),
  fun K => PySem.W.keepIn K (.ref (He.fAd K ("Reader", some "place"))),
  fun K => decide (PySem.W.findIn K (.ref (He.ga K "Reader")) "ended" = some (some (.ref (He.fAd K ("Reader", some "ended"))))),
  fun K => PySem.W.isFn K (.ref (He.fAd K ("Reader", some "ended"))),
  fun K => PySem.W.keepIn K (.ref (He.fAd K ("Reader", some "ended"))),
  fun K => decide (PySem.W.nsIn K mainGlobals "crc_on" = some (some (.ref (He.fAd K ("crc_on", none))))),
  fun K => PySem.W.keepIn K (.ref (He.fAd K ("crc_on", none))),
  fun K => decide (PySem.W.nsIn K mainGlobals "crc" = some (some (.ref (He.fAd K ("crc", none))))),
  fun K => PySem.W.keepIn K (.ref (He.fAd K ("crc", none))),
  fun K => decide (PySem.W.nsIn K mainGlobals "crc_row" = some (some (.ref (He.fAd K ("crc_row", none))))),
  fun K => PySem.W.keepIn K (.ref (He.fAd K ("crc_row", none))),
  fun K => decide (PySem.W.nsIn K mainGlobals "is_whole_tables" = some (some (.ref (He.fAd K ("is_whole_tables", none)))))]
def zHx1 : List (PySem.W.Frag → Bool) := [fun K => PySem.W.keepIn K (.ref (He.fAd K ("is_whole_tables", none))),
  fun K => decide (PySem.W.nsIn K mainGlobals "is_list_of" = some (some (.ref (He.fAd K ("is_list_of", none))))),
  fun K => PySem.W.keepIn K (.ref (He.fAd K ("is_list_of", none))),
  fun K => decide (PySem.W.nsIn K mainGlobals "room_of" = some (some (.ref (He.fAd K ("room_of", none))))),
  fun K => PySem.W.keepIn K (.ref (He.fAd K ("room_of", none))),
  fun K => decide (PySem.W.nsIn K mainGlobals "fits" = some (some (.ref (He.fAd K ("fits", none))))),
  fun K => PySem.W.keepIn K (.ref (He.fAd K ("fits", none))),
  fun K => decide (PySem.W.nsIn K mainGlobals "check_lengths" = some (some (.ref (He.fAd K ("check_lengths", none))))),
  fun K => PySem.W.keepIn K (.ref (He.fAd K ("check_lengths", none))),
  fun K => decide (PySem.W.nsIn K mainGlobals "words_of" = some (some (.ref (He.fAd K ("words_of", none))))),
  fun K => PySem.W.keepIn K (.ref (He.fAd K ("words_of", none))),
  fun K => decide (PySem.W.findIn K (.ref (He.ga K "Unpacker")) "__init__" = some (some (.ref (He.fAd K ("Unpacker", some "__init__"))))),
  fun K => PySem.W.isFn K (.ref (He.fAd K ("Unpacker", some "__init__"))),
  fun K => PySem.W.keepIn K (.ref (He.fAd K ("Unpacker", some "__init__"))),
  fun K => decide (PySem.W.findIn K (.ref (He.ga K "Unpacker")) "next_symbol" = some (some (.ref (He.fAd K ("Unpacker", some "next_symbol"))))),
  fun K => PySem.W.isFn K (.ref (He.fAd K ("Unpacker", some "next_symbol"))),
  fun K => PySem.W.keepIn K (.ref (He.fAd K ("Unpacker", some "next_symbol"))),
  fun K => decide (PySem.W.findIn K (.ref (He.ga K "Unpacker")) "take_byte" = some (some (.ref (He.fAd K ("Unpacker", some "take_byte"))))),
  fun K => PySem.W.isFn K (.ref (He.fAd K ("Unpacker", some "take_byte"))),
  fun K => PySem.W.keepIn K (.ref (He.fAd K ("Unpacker", some "take_byte"))),
  fun K => decide (PySem.W.findIn K (.ref (He.ga K "Unpacker")) "take_back" = some (some (.ref (He.fAd K ("Unpacker", some "take_back"))))),
  fun K => PySem.W.isFn K (.ref (He.fAd K ("Unpacker", some "take_back"))),
  fun K => PySem.W.keepIn K (.ref (He.fAd K ("Unpacker", some "take_back"))),
  fun K => decide (PySem.W.findIn K (.ref (He.ga K "Unpacker")) "is_good" = some (some (.ref (He.fAd K ("Unpacker", some "is_good"))))),
  fun K => PySem.W.isFn K (.ref (He.fAd K ("Unpacker", some "is_good"))),
  fun K => PySem.W.keepIn K (.ref (He.fAd K ("Unpacker", some "is_good"))),
  fun K => decide (PySem.W.nsIn K mainGlobals "table_at" = some (some (.ref (He.fAd K ("table_at", none))))),
  fun K => PySem.W.keepIn K (.ref (He.fAd K ("table_at", none))),
  fun K => decide (PySem.W.nsIn K mainGlobals "packed_at" = some (some (.ref (He.fAd K ("packed_at", none))))),
  fun K => PySem.W.keepIn K (.ref (He.fAd K ("packed_at", none))),
  fun K => decide (PySem.W.nsIn K mainGlobals "body_at" = some (some (.ref (He.fAd K ("body_at", none))))),
  fun K => PySem.W.keepIn K (.ref (He.fAd K ("body_at", none))),
  fun K => decide (PySem.W.nsIn K mainGlobals "piece_at" = some (some (.ref (He.fAd K ("piece_at", none))))),
  fun K => PySem.W.keepIn K (.ref (He.fAd K ("piece_at", none))),
  fun K => decide (PySem.W.nsIn K mainGlobals "_law_draw" = some (some (.ref (He.fAd K ("_law_draw", none))))),
  fun K => PySem.W.keepIn K (.ref (He.fAd K ("_law_draw", none))),
  fun K => decide (PySem.W.nsIn K mainGlobals "_law_next" = some (some (.ref (He.fAd K ("_law_next", none))))),
  fun K => PySem.W.keepIn K (.ref (He.fAd K ("_law_next", none))),
  fun K => decide (PySem.W.nsIn K mainGlobals "_law_sum" = some (some (.ref (He.fAd K ("_law_sum", none))))),
  fun K => PySem.W.keepIn K (.ref (He.fAd K ("_law_sum", none)))]
def zHx2 : List (PySem.W.Frag → Bool) := [fun K => decide (PySem.W.nsIn K mainGlobals "_law_bytes" = some (some (.ref (He.fAd K ("_law_bytes", none))))),
  fun K => PySem.W.keepIn K (.ref (He.fAd K ("_law_bytes", none))),
  fun K => decide (PySem.W.nsIn K mainGlobals "_law_bits" = some (some (.ref (He.fAd K ("_law_bits", none))))),
  fun K => PySem.W.keepIn K (.ref (He.fAd K ("_law_bits", none))),
  fun K => decide (PySem.W.nsIn K mainGlobals "_law_words" = some (some (.ref (He.fAd K ("_law_words", none))))),
  fun K => PySem.W.keepIn K (.ref (He.fAd K ("_law_words", none))),
  fun K => decide (PySem.W.nsIn K mainGlobals "_law_room" = some (some (.ref (He.fAd K ("_law_room", none))))),
  fun K => PySem.W.keepIn K (.ref (He.fAd K ("_law_room", none))),
  fun K => decide (PySem.W.nsIn K mainGlobals "_law_lengths" = some (some (.ref (He.fAd K ("_law_lengths", none))))),
  fun K => PySem.W.keepIn K (.ref (He.fAd K ("_law_lengths", none))),
  fun K => decide (PySem.W.nsIn K mainGlobals "_law_overfull" = some (some (.ref (He.fAd K ("_law_overfull", none))))),
  fun K => PySem.W.keepIn K (.ref (He.fAd K ("_law_overfull", none))),
  fun K => decide (PySem.W.nsIn K mainGlobals "_law_body" = some (some (.ref (He.fAd K ("_law_body", none))))),
  fun K => PySem.W.keepIn K (.ref (He.fAd K ("_law_body", none))),
  fun K => decide (PySem.W.nsIn K mainGlobals "_law_piece" = some (some (.ref (He.fAd K ("_law_piece", none))))),
  fun K => PySem.W.keepIn K (.ref (He.fAd K ("_law_piece", none))),
  fun K => decide (PySem.W.nsIn K mainGlobals "_law_take" = some (some (.ref (He.fAd K ("_law_take", none))))),
  fun K => PySem.W.keepIn K (.ref (He.fAd K ("_law_take", none))),
  fun K => decide (PySem.W.nsIn K mainGlobals "_law_unpacked" = some (some (.ref (He.fAd K ("_law_unpacked", none))))),
  fun K => PySem.W.keepIn K (.ref (He.fAd K ("_law_unpacked", none))),
  fun K => decide (PySem.W.nsIn K mainGlobals "_law_due" = some (some (.ref (He.fAd K ("_law_due", none))))),
  fun K => PySem.W.keepIn K (.ref (He.fAd K ("_law_due", none))),
  fun K => decide (PySem.W.nsIn K mainGlobals "law" = some (some (.ref (He.fAd K ("law", none))))),
  fun K => PySem.W.keepIn K (.ref (He.fAd K ("law", none))),
  fun K => decide (PySem.W.nsIn K mainGlobals "Reader" = some (some (.ref (He.ga K "Reader")))),
  fun K => PySem.W.plainGet K (He.ga K "Reader") Str.empty,
  fun K => PySem.W.hasDictIn K (He.ga K "Reader"),
  fun K => PySem.W.plainOver K (He.ga K "Reader"),
  fun K => decide (PySem.W.findIn K (.ref (He.ga K "Reader")) "__setattr__" = some (some (.builtin "object.__setattr__"))),
  fun K => PySem.W.makesIn K (He.ga K "Reader"),
  fun K => PySem.W.keepIn K (.ref (He.ga K "Reader")),
  fun K => decide (PySem.W.findIn K (.ref (He.ga K "Reader")) "bytes" = some none),
  fun K => decide (PySem.W.findIn K (.ref (He.ga K "Reader")) "next" = some none),
  fun K => decide (PySem.W.nsIn K mainGlobals "Unpacker" = some (some (.ref (He.ga K "Unpacker")))),
  fun K => PySem.W.plainGet K (He.ga K "Unpacker") Str.empty,
  fun K => PySem.W.hasDictIn K (He.ga K "Unpacker"),
  fun K => PySem.W.plainOver K (He.ga K "Unpacker"),
  fun K => decide (PySem.W.findIn K (.ref (He.ga K "Unpacker")) "__setattr__" = some (some (.builtin "object.__setattr__"))),
  fun K => PySem.W.makesIn K (He.ga K "Unpacker"),
  fun K => PySem.W.keepIn K (.ref (He.ga K "Unpacker"))]
def zHx3 : List (PySem.W.Frag → Bool) := [fun K => decide (PySem.W.findIn K (.ref (He.ga K "Unpacker")) "reader" = some none),
  fun K => decide (PySem.W.findIn K (.ref (He.ga K "Unpacker")) "many" = some none),
  fun K => decide (PySem.W.findIn K (.ref (He.ga K "Unpacker")) "made" = some none),
  fun K => decide (PySem.W.findIn K (.ref (He.ga K "Unpacker")) "known" = some none),
  fun K => decide (PySem.W.nsIn K mainGlobals "BadBits" = some (some (.ref (He.ga K "BadBits")))),
  fun K => PySem.W.keepIn K (.ref (He.ga K "BadBits")),
  fun K => decide (PySem.W.subIn K (.ref (He.ga K "BadBits")) (.type "BaseException") = some true),
  fun K => decide (PySem.W.typeIn K (.ref (He.ga K "BadBits")) = some (.type "type")),
  fun K => PySem.W.isClsIn K (He.ga K "BadBits"),
  fun K => PySem.W.excIn K (He.ga K "BadBits") [.type "ValueError", .type "Exception", .type "BaseException", .type "object"] "ValueError.__new__",
  fun K => decide (PySem.W.findIn K (.ref (He.ga K "BadBits")) "__getattribute__" = some (some (.builtin "BaseException.__getattribute__"))),
  fun K => decide (PySem.W.findIn K (.ref (He.ga K "BadBits")) "__getattr__" = some none),
  fun K => PySem.W.hasDictIn K (He.ga K "BadBits"),
  fun K => decide (PySem.W.findIn K (.ref (He.ga K "BadBits")) "__class__" = some (some (.builtin "object.__class__"))),
  fun K => decide (PySem.W.specialIn K (.builtin "object.__class__") "__get__" = some (some (.builtin "getset_descriptor.__get__"))),
  fun K => decide (PySem.W.takesIn K (.builtin "object.__class__") = some true),
  fun K => decide (PySem.W.mroIn K (He.ga K "BadBits") (.type "object") = some true),
  fun K => decide (PySem.W.nsIn K mainGlobals "BadTable" = some (some (.ref (He.ga K "BadTable")))),
  fun K => PySem.W.keepIn K (.ref (He.ga K "BadTable")),
  fun K => decide (PySem.W.subIn K (.ref (He.ga K "BadTable")) (.type "BaseException") = some true),
  fun K => decide (PySem.W.typeIn K (.ref (He.ga K "BadTable")) = some (.type "type")),
  fun K => PySem.W.isClsIn K (He.ga K "BadTable"),
  fun K => PySem.W.excIn K (He.ga K "BadTable") [.type "ValueError", .type "Exception", .type "BaseException", .type "object"] "ValueError.__new__",
  fun K => decide (PySem.W.findIn K (.ref (He.ga K "BadTable")) "__getattribute__" = some (some (.builtin "BaseException.__getattribute__"))),
  fun K => decide (PySem.W.findIn K (.ref (He.ga K "BadTable")) "__getattr__" = some none),
  fun K => PySem.W.hasDictIn K (He.ga K "BadTable"),
  fun K => decide (PySem.W.findIn K (.ref (He.ga K "BadTable")) "__class__" = some (some (.builtin "object.__class__"))),
  fun K => decide (PySem.W.specialIn K (.builtin "object.__class__") "__get__" = some (some (.builtin "getset_descriptor.__get__"))),
  fun K => decide (PySem.W.takesIn K (.builtin "object.__class__") = some true),
  fun K => decide (PySem.W.mroIn K (He.ga K "BadTable") (.type "object") = some true),
  fun K => decide (PySem.W.nsIn K mainGlobals "all" = some none),
  fun K => decide (PySem.W.nsIn K mainGlobals "any" = some none),
  fun K => decide (PySem.W.nsIn K mainGlobals "bool" = some none),
  fun K => decide (PySem.W.nsIn K mainGlobals "dict" = some none),
  fun K => decide (PySem.W.nsIn K mainGlobals "enumerate" = some none),
  fun K => decide (PySem.W.nsIn K mainGlobals "int" = some none),
  fun K => decide (PySem.W.nsIn K mainGlobals "isinstance" = some none),
  fun K => decide (PySem.W.nsIn K mainGlobals "len" = some none),
  fun K => decide (PySem.W.nsIn K mainGlobals "list" = some none),
  fun K => decide (PySem.W.nsIn K mainGlobals "max" = some none)]
def zHx4 : List (PySem.W.Frag → Bool) := [fun K => decide (PySem.W.nsIn K mainGlobals "min" = some none),
  fun K => decide (PySem.W.nsIn K mainGlobals "range" = some none),
  fun K => decide (PySem.W.nsIn K mainGlobals "sorted" = some none),
  fun K => decide (PySem.W.nsIn K mainGlobals "str" = some none),
  fun K => decide (PySem.W.nsIn K mainGlobals "sum" = some none),
  fun K => decide (PySem.W.nsIn K mainGlobals "MARK" = some (some (.ref (He.ga K "MARK"))))]
def zHx : Hd.Ex := [zHx0, zHx1, zHx2, zHx3, zHx4]
def zHl0 : List Str := [(Str.ofString "ShelfError"),
  (Str.ofString "BadBits"),
  (Str.ofString "BadTable"),
  (Str.ofString "MOST_BITS"),
  (Str.ofString "is_whole"),
  (Str.ofString "is_whole_bits"),
  (Str.ofString "refuse_unless"),
  (Str.ofString "Reader"),
  (Str.ofString "BEGIN"),
  (Str.ofString "FEED"),
  (Str.ofString "TOP"),
  (Str.ofString "crc_on"),
  (Str.ofString "crc"),
  (Str.ofString "crc_row"),
  (Str.ofString "MOST_SYMBOLS"),
  (Str.ofString "LONGEST"),
  (Str.ofString "is_whole_tables"),
  (Str.ofString "is_list_of"),
  (Str.ofString "room_of"),
  (Str.ofString "fits"),
  (Str.ofString "check_lengths"),
  (Str.ofString "words_of"),
  (Str.ofString "MARK"),
  (Str.ofString "SYMBOLS"),
  (Str.ofString "BACK"),
  (Str.ofString "TABLE_BYTES"),
  (Str.ofString "MOST_NUMBER"),
  (Str.ofString "PLAIN"),
  (Str.ofString "PACKED"),
  (Str.ofString "Unpacker"),
  (Str.ofString "table_at"),
  (Str.ofString "packed_at"),
  (Str.ofString "body_at"),
  (Str.ofString "piece_at"),
  (Str.ofString "_law_draw"),
  (Str.ofString "_law_next"),
  (Str.ofString "_law_sum"),
  (Str.ofString "_law_bytes"),
  (Str.ofString "_law_bits"),
  (Str.ofString "_law_words")]
def zHl1 : List Str := [(Str.ofString "_law_room"),
  (Str.ofString "_law_lengths"),
  (Str.ofString "_law_overfull"),
  (Str.ofString "_law_body"),
  (Str.ofString "_law_piece"),
  (Str.ofString "_law_take"),
  (Str.ofString "_law_unpacked"),
  (Str.ofString "_law_due")]
def zHl : List Str := zHl0 ++ zHl1
abbrev zHr : PySem.W.OpenRow := PySem.W.OpenLaw.row PySem.Challenge.rw_tornshelf_k32_pieces_at_places
abbrev zHk : PySem.W.Hook := Hd.hook 4 zHfn zHfd zHx
def zHob (s : PySem.W.SharedT) : Hd.Al := Hd.obsG 4 zHfn zHfd zHx (HandSHeadRun.getT s)
theorem zHob_eq (s : PySem.W.SharedT) : zHob s = zHk.obs s.abs := Hd.obsG_eq (HandSHeadRun.getT_eq s)
set_option maxHeartbeats 0 in
theorem zHrun (w : World) : HandSHeadRun.RunEq zHr (PySem.W.view zHr.prog [56]) zHk zHob 20000 zHl w := by
  intro os
  kernel_rfl
def spLaw (K : PySem.W.Frag) : Sp := fun vs H Q _ => ∃ (a : Addr) (ns : List Int), vs = [.ref a] ∧ SqL K H a (ns.map V.int) ∧ ns.length ≤ 63 ∧ ND H ∧ ∀ H', Q (.bl true) H'
theorem all_mk {l : PySem.W.OpenLaw} {w : World} {K : PySem.W.Frag} {h : Heap} {mg : Str → Option Value} {fa f0 f1 f2 f3 f4 f5 f6 f7 f8 f9 f10 f11 f12 f13 f14 f15 f16 f17 f18 f19 f20 f21 f22 f23 f24 f25 f26 f27 f28 f29 f30 f31 f32 f33 f34 f35 f36 f37 f38 f39 C_Reader C_Unpacker C_BadBits C_BadTable : Addr} (hlaw : ∀ {P : Program} {w : World} {K : PySem.W.Frag} {mg : Str → Option Value} {base : Heap} (T : Tx K mg), FnOk P w K mg base CX0 10 T.a_law T.d_law ["_law_script"] (spLaw K)) (X : K.In h) (G : h.Ns mainGlobals mg) (hfa : mg "law" = some (.ref fa))
    {od0 an0 : Option Addr} {sl0 : Array (Option Value)} {oc0 kV0 dc0 pm0 cd0 ct0 : Value}
    {od1 an1 : Option Addr} {sl1 : Array (Option Value)} {oc1 kV1 dc1 pm1 cd1 ct1 : Value}
    {od2 an2 : Option Addr} {sl2 : Array (Option Value)} {oc2 kV2 dc2 pm2 cd2 ct2 : Value}
    {T2 : Addr} {o2 : Obj} {n2 : Nat} {w2_0 : Value}
    {od3 an3 : Option Addr} {sl3 : Array (Option Value)} {oc3 kV3 dc3 pm3 cd3 ct3 : Value}
    {od4 an4 : Option Addr} {sl4 : Array (Option Value)} {oc4 kV4 dc4 pm4 cd4 ct4 : Value}
    {od5 an5 : Option Addr} {sl5 : Array (Option Value)} {oc5 kV5 dc5 pm5 cd5 ct5 : Value}
    {od6 an6 : Option Addr} {sl6 : Array (Option Value)} {oc6 kV6 dc6 pm6 cd6 ct6 : Value}
    {od7 an7 : Option Addr} {sl7 : Array (Option Value)} {oc7 kV7 dc7 pm7 cd7 ct7 : Value}
    {od8 an8 : Option Addr} {sl8 : Array (Option Value)} {oc8 kV8 dc8 pm8 cd8 ct8 : Value}
    {od9 an9 : Option Addr} {sl9 : Array (Option Value)} {oc9 kV9 dc9 pm9 cd9 ct9 : Value}
    {od10 an10 : Option Addr} {sl10 : Array (Option Value)} {oc10 kV10 dc10 pm10 cd10 ct10 : Value}
    {od11 an11 : Option Addr} {sl11 : Array (Option Value)} {oc11 kV11 dc11 pm11 cd11 ct11 : Value}
    {od12 an12 : Option Addr} {sl12 : Array (Option Value)} {oc12 kV12 dc12 pm12 cd12 ct12 : Value}
    {od13 an13 : Option Addr} {sl13 : Array (Option Value)} {oc13 kV13 dc13 pm13 cd13 ct13 : Value}
    {od14 an14 : Option Addr} {sl14 : Array (Option Value)} {oc14 kV14 dc14 pm14 cd14 ct14 : Value}
    {od15 an15 : Option Addr} {sl15 : Array (Option Value)} {oc15 kV15 dc15 pm15 cd15 ct15 : Value}
    {od16 an16 : Option Addr} {sl16 : Array (Option Value)} {oc16 kV16 dc16 pm16 cd16 ct16 : Value}
    {od17 an17 : Option Addr} {sl17 : Array (Option Value)} {oc17 kV17 dc17 pm17 cd17 ct17 : Value}
    {od18 an18 : Option Addr} {sl18 : Array (Option Value)} {oc18 kV18 dc18 pm18 cd18 ct18 : Value}
    {od19 an19 : Option Addr} {sl19 : Array (Option Value)} {oc19 kV19 dc19 pm19 cd19 ct19 : Value}
    {od20 an20 : Option Addr} {sl20 : Array (Option Value)} {oc20 kV20 dc20 pm20 cd20 ct20 : Value}
    {od21 an21 : Option Addr} {sl21 : Array (Option Value)} {oc21 kV21 dc21 pm21 cd21 ct21 : Value}
    {od22 an22 : Option Addr} {sl22 : Array (Option Value)} {oc22 kV22 dc22 pm22 cd22 ct22 : Value}
    {od23 an23 : Option Addr} {sl23 : Array (Option Value)} {oc23 kV23 dc23 pm23 cd23 ct23 : Value}
    {od24 an24 : Option Addr} {sl24 : Array (Option Value)} {oc24 kV24 dc24 pm24 cd24 ct24 : Value}
    {od25 an25 : Option Addr} {sl25 : Array (Option Value)} {oc25 kV25 dc25 pm25 cd25 ct25 : Value}
    {od26 an26 : Option Addr} {sl26 : Array (Option Value)} {oc26 kV26 dc26 pm26 cd26 ct26 : Value}
    {od27 an27 : Option Addr} {sl27 : Array (Option Value)} {oc27 kV27 dc27 pm27 cd27 ct27 : Value}
    {od28 an28 : Option Addr} {sl28 : Array (Option Value)} {oc28 kV28 dc28 pm28 cd28 ct28 : Value}
    {od29 an29 : Option Addr} {sl29 : Array (Option Value)} {oc29 kV29 dc29 pm29 cd29 ct29 : Value}
    {od30 an30 : Option Addr} {sl30 : Array (Option Value)} {oc30 kV30 dc30 pm30 cd30 ct30 : Value}
    {od31 an31 : Option Addr} {sl31 : Array (Option Value)} {oc31 kV31 dc31 pm31 cd31 ct31 : Value}
    {od32 an32 : Option Addr} {sl32 : Array (Option Value)} {oc32 kV32 dc32 pm32 cd32 ct32 : Value}
    {od33 an33 : Option Addr} {sl33 : Array (Option Value)} {oc33 kV33 dc33 pm33 cd33 ct33 : Value}
    {od34 an34 : Option Addr} {sl34 : Array (Option Value)} {oc34 kV34 dc34 pm34 cd34 ct34 : Value}
    {od35 an35 : Option Addr} {sl35 : Array (Option Value)} {oc35 kV35 dc35 pm35 cd35 ct35 : Value}
    {od36 an36 : Option Addr} {sl36 : Array (Option Value)} {oc36 kV36 dc36 pm36 cd36 ct36 : Value}
    {od37 an37 : Option Addr} {sl37 : Array (Option Value)} {oc37 kV37 dc37 pm37 cd37 ct37 : Value}
    {od38 an38 : Option Addr} {sl38 : Array (Option Value)} {oc38 kV38 dc38 pm38 cd38 ct38 : Value}
    {od39 an39 : Option Addr} {sl39 : Array (Option Value)} {oc39 kV39 dc39 pm39 cd39 ct39 : Value}
    {u_MOST_BITS : Value}
    {u_BEGIN : Value}
    {u_FEED : Value}
    {u_TOP : Value}
    {u_MOST_SYMBOLS : Value}
    {u_LONGEST : Value}
    {u_MARK : Addr} {kob_MARK : Obj} {kits_MARK : Array Value} {kn_MARK : Nat}
    {u_SYMBOLS : Value}
    {u_BACK : Value}
    {u_TABLE_BYTES : Value}
    {u_MOST_NUMBER : Value}
    {u_PLAIN : Value}
    {u_PACKED : Value}
    (a0 : PySem.W.nsIn K mainGlobals "is_whole_bits" = some (some (.ref f0)))
    (l0 : K.lookup f0 = some ⟨oc0, od0, .func (PySem.W.fnOf "is_whole" "is_whole" (defArgs s_is_whole_bits) (defBody s_is_whole_bits) (defScope s_is_whole_bits) .none kV0 dc0 pm0 an0 cd0 ct0), sl0⟩)
    (c0 : PySem.W.codeIn K cd0 "is_whole" = true) (k0 : PySem.W.keepIn K (.ref f0) = true)
    (a1 : PySem.W.nsIn K mainGlobals "refuse_unless" = some (some (.ref f1)))
    (l1 : K.lookup f1 = some ⟨oc1, od1, .func (PySem.W.fnOf "refuse_unless" "refuse_unless" (defArgs s_refuse_unless) (defBody s_refuse_unless) (defScope s_refuse_unless) .none kV1 dc1 pm1 an1 cd1 ct1), sl1⟩)
    (c1 : PySem.W.codeIn K cd1 "refuse_unless" = true) (k1 : PySem.W.keepIn K (.ref f1) = true)
    (a2 : PySem.W.findIn K (.ref C_Reader) "__init__" = some (some (.ref f2)))
    (i2 : PySem.W.isFn K (.ref f2) = true)
    (l2 : K.lookup f2 = some ⟨oc2, od2, .func (PySem.W.fnOf "__init__" "Reader.__init__" (defArgs s_Reader_init) (defBody s_Reader_init) (defScope s_Reader_init) (.ref T2) kV2 dc2 pm2 an2 cd2 ct2), sl2⟩)
    (c2 : PySem.W.codeIn K cd2 "Reader.__init__" = true) (k2 : PySem.W.keepIn K (.ref f2) = true)
    (t2 : K.lookup T2 = some o2) (s2 : o2.data = .seq (List.toArray [w2_0]) n2)
    (r_d2_0 : RelV (V.int 0) w2_0)
    (a3 : PySem.W.findIn K (.ref C_Reader) "left" = some (some (.ref f3)))
    (i3 : PySem.W.isFn K (.ref f3) = true)
    (l3 : K.lookup f3 = some ⟨oc3, od3, .func (PySem.W.fnOf "left" "Reader.left" (defArgs s_Reader_left) (defBody s_Reader_left) (defScope s_Reader_left) .none kV3 dc3 pm3 an3 cd3 ct3), sl3⟩)
    (c3 : PySem.W.codeIn K cd3 "Reader.left" = true) (k3 : PySem.W.keepIn K (.ref f3) = true)
    (a4 : PySem.W.findIn K (.ref C_Reader) "take" = some (some (.ref f4)))
    (i4 : PySem.W.isFn K (.ref f4) = true)
    (l4 : K.lookup f4 = some ⟨oc4, od4, .func (PySem.W.fnOf "take" "Reader.take" (defArgs s_Reader_take) (defBody s_Reader_take) (defScope s_Reader_take) .none kV4 dc4 pm4 an4 cd4 ct4), sl4⟩)
    (c4 : PySem.W.codeIn K cd4 "Reader.take" = true) (k4 : PySem.W.keepIn K (.ref f4) = true)
    (a5 : PySem.W.findIn K (.ref C_Reader) "place" = some (some (.ref f5)))
    (i5 : PySem.W.isFn K (.ref f5) = true)
    (l5 : K.lookup f5 = some ⟨oc5, od5, .func (PySem.W.fnOf "place" "Reader.place" (defArgs s_Reader_place) (defBody s_Reader_place) (defScope s_Reader_place) .none kV5 dc5 pm5 an5 cd5 ct5), sl5⟩)
    (c5 : PySem.W.codeIn K cd5 "Reader.place" = true) (k5 : PySem.W.keepIn K (.ref f5) = true)
    (a6 : PySem.W.findIn K (.ref C_Reader) "ended" = some (some (.ref f6)))
    (i6 : PySem.W.isFn K (.ref f6) = true)
    (l6 : K.lookup f6 = some ⟨oc6, od6, .func (PySem.W.fnOf "ended" "Reader.ended" (defArgs s_Reader_ended) (defBody s_Reader_ended) (defScope s_Reader_ended) .none kV6 dc6 pm6 an6 cd6 ct6), sl6⟩)
    (c6 : PySem.W.codeIn K cd6 "Reader.ended" = true) (k6 : PySem.W.keepIn K (.ref f6) = true)
    (a7 : PySem.W.nsIn K mainGlobals "crc_on" = some (some (.ref f7)))
    (l7 : K.lookup f7 = some ⟨oc7, od7, .func (PySem.W.fnOf "crc_on" "crc_on" (defArgs s_crc_on) (defBody s_crc_on) (defScope s_crc_on) .none kV7 dc7 pm7 an7 cd7 ct7), sl7⟩)
    (c7 : PySem.W.codeIn K cd7 "crc_on" = true) (k7 : PySem.W.keepIn K (.ref f7) = true)
    (a8 : PySem.W.nsIn K mainGlobals "crc" = some (some (.ref f8)))
    (l8 : K.lookup f8 = some ⟨oc8, od8, .func (PySem.W.fnOf "crc" "crc" (defArgs s_crc) (defBody s_crc) (defScope s_crc) .none kV8 dc8 pm8 an8 cd8 ct8), sl8⟩)
    (c8 : PySem.W.codeIn K cd8 "crc" = true) (k8 : PySem.W.keepIn K (.ref f8) = true)
    (a9 : PySem.W.nsIn K mainGlobals "crc_row" = some (some (.ref f9)))
    (l9 : K.lookup f9 = some ⟨oc9, od9, .func (PySem.W.fnOf "crc_row" "crc_row" (defArgs s_crc_row) (defBody s_crc_row) (defScope s_crc_row) .none kV9 dc9 pm9 an9 cd9 ct9), sl9⟩)
    (c9 : PySem.W.codeIn K cd9 "crc_row" = true) (k9 : PySem.W.keepIn K (.ref f9) = true)
    (a10 : PySem.W.nsIn K mainGlobals "is_whole_tables" = some (some (.ref f10)))
    (l10 : K.lookup f10 = some ⟨oc10, od10, .func (PySem.W.fnOf "is_whole" "is_whole" (defArgs s_is_whole_tables) (defBody s_is_whole_tables) (defScope s_is_whole_tables) .none kV10 dc10 pm10 an10 cd10 ct10), sl10⟩)
    (c10 : PySem.W.codeIn K cd10 "is_whole" = true) (k10 : PySem.W.keepIn K (.ref f10) = true)
    (a11 : PySem.W.nsIn K mainGlobals "is_list_of" = some (some (.ref f11)))
    (l11 : K.lookup f11 = some ⟨oc11, od11, .func (PySem.W.fnOf "is_list_of" "is_list_of" (defArgs s_is_list_of) (defBody s_is_list_of) (defScope s_is_list_of) .none kV11 dc11 pm11 an11 cd11 ct11), sl11⟩)
    (c11 : PySem.W.codeIn K cd11 "is_list_of" = true) (k11 : PySem.W.keepIn K (.ref f11) = true)
    (a12 : PySem.W.nsIn K mainGlobals "room_of" = some (some (.ref f12)))
    (l12 : K.lookup f12 = some ⟨oc12, od12, .func (PySem.W.fnOf "room_of" "room_of" (defArgs s_room_of) (defBody s_room_of) (defScope s_room_of) .none kV12 dc12 pm12 an12 cd12 ct12), sl12⟩)
    (c12 : PySem.W.codeIn K cd12 "room_of" = true) (k12 : PySem.W.keepIn K (.ref f12) = true)
    (a13 : PySem.W.nsIn K mainGlobals "fits" = some (some (.ref f13)))
    (l13 : K.lookup f13 = some ⟨oc13, od13, .func (PySem.W.fnOf "fits" "fits" (defArgs s_fits) (defBody s_fits) (defScope s_fits) .none kV13 dc13 pm13 an13 cd13 ct13), sl13⟩)
    (c13 : PySem.W.codeIn K cd13 "fits" = true) (k13 : PySem.W.keepIn K (.ref f13) = true)
    (a14 : PySem.W.nsIn K mainGlobals "check_lengths" = some (some (.ref f14)))
    (l14 : K.lookup f14 = some ⟨oc14, od14, .func (PySem.W.fnOf "check_lengths" "check_lengths" (defArgs s_check_lengths) (defBody s_check_lengths) (defScope s_check_lengths) .none kV14 dc14 pm14 an14 cd14 ct14), sl14⟩)
    (c14 : PySem.W.codeIn K cd14 "check_lengths" = true) (k14 : PySem.W.keepIn K (.ref f14) = true)
    (a15 : PySem.W.nsIn K mainGlobals "words_of" = some (some (.ref f15)))
    (l15 : K.lookup f15 = some ⟨oc15, od15, .func (PySem.W.fnOf "words_of" "words_of" (defArgs s_words_of) (defBody s_words_of) (defScope s_words_of) .none kV15 dc15 pm15 an15 cd15 ct15), sl15⟩)
    (c15 : PySem.W.codeIn K cd15 "words_of" = true) (k15 : PySem.W.keepIn K (.ref f15) = true)
    (a16 : PySem.W.findIn K (.ref C_Unpacker) "__init__" = some (some (.ref f16)))
    (i16 : PySem.W.isFn K (.ref f16) = true)
    (l16 : K.lookup f16 = some ⟨oc16, od16, .func (PySem.W.fnOf "__init__" "Unpacker.__init__" (defArgs s_Unpacker_init) (defBody s_Unpacker_init) (defScope s_Unpacker_init) .none kV16 dc16 pm16 an16 cd16 ct16), sl16⟩)
    (c16 : PySem.W.codeIn K cd16 "Unpacker.__init__" = true) (k16 : PySem.W.keepIn K (.ref f16) = true)
    (a17 : PySem.W.findIn K (.ref C_Unpacker) "next_symbol" = some (some (.ref f17)))
    (i17 : PySem.W.isFn K (.ref f17) = true)
    (l17 : K.lookup f17 = some ⟨oc17, od17, .func (PySem.W.fnOf "next_symbol" "Unpacker.next_symbol" (defArgs s_Unpacker_next_symbol) (defBody s_Unpacker_next_symbol) (defScope s_Unpacker_next_symbol) .none kV17 dc17 pm17 an17 cd17 ct17), sl17⟩)
    (c17 : PySem.W.codeIn K cd17 "Unpacker.next_symbol" = true) (k17 : PySem.W.keepIn K (.ref f17) = true)
    (a18 : PySem.W.findIn K (.ref C_Unpacker) "take_byte" = some (some (.ref f18)))
    (i18 : PySem.W.isFn K (.ref f18) = true)
    (l18 : K.lookup f18 = some ⟨oc18, od18, .func (PySem.W.fnOf "take_byte" "Unpacker.take_byte" (defArgs s_Unpacker_take_byte) (defBody s_Unpacker_take_byte) (defScope s_Unpacker_take_byte) .none kV18 dc18 pm18 an18 cd18 ct18), sl18⟩)
    (c18 : PySem.W.codeIn K cd18 "Unpacker.take_byte" = true) (k18 : PySem.W.keepIn K (.ref f18) = true)
    (a19 : PySem.W.findIn K (.ref C_Unpacker) "take_back" = some (some (.ref f19)))
    (i19 : PySem.W.isFn K (.ref f19) = true)
    (l19 : K.lookup f19 = some ⟨oc19, od19, .func (PySem.W.fnOf "take_back" "Unpacker.take_back" (defArgs s_Unpacker_take_back) (defBody s_Unpacker_take_back) (defScope s_Unpacker_take_back) .none kV19 dc19 pm19 an19 cd19 ct19), sl19⟩)
    (c19 : PySem.W.codeIn K cd19 "Unpacker.take_back" = true) (k19 : PySem.W.keepIn K (.ref f19) = true)
    (a20 : PySem.W.findIn K (.ref C_Unpacker) "is_good" = some (some (.ref f20)))
    (i20 : PySem.W.isFn K (.ref f20) = true)
    (l20 : K.lookup f20 = some ⟨oc20, od20, .func (PySem.W.fnOf "is_good" "Unpacker.is_good" (defArgs s_Unpacker_is_good) (defBody s_Unpacker_is_good) (defScope s_Unpacker_is_good) .none kV20 dc20 pm20 an20 cd20 ct20), sl20⟩)
    (c20 : PySem.W.codeIn K cd20 "Unpacker.is_good" = true) (k20 : PySem.W.keepIn K (.ref f20) = true)
    (a21 : PySem.W.nsIn K mainGlobals "table_at" = some (some (.ref f21)))
    (l21 : K.lookup f21 = some ⟨oc21, od21, .func (PySem.W.fnOf "table_at" "table_at" (defArgs s_table_at) (defBody s_table_at) (defScope s_table_at) .none kV21 dc21 pm21 an21 cd21 ct21), sl21⟩)
    (c21 : PySem.W.codeIn K cd21 "table_at" = true) (k21 : PySem.W.keepIn K (.ref f21) = true)
    (a22 : PySem.W.nsIn K mainGlobals "packed_at" = some (some (.ref f22)))
    (l22 : K.lookup f22 = some ⟨oc22, od22, .func (PySem.W.fnOf "packed_at" "packed_at" (defArgs s_packed_at) (defBody s_packed_at) (defScope s_packed_at) .none kV22 dc22 pm22 an22 cd22 ct22), sl22⟩)
    (c22 : PySem.W.codeIn K cd22 "packed_at" = true) (k22 : PySem.W.keepIn K (.ref f22) = true)
    (a23 : PySem.W.nsIn K mainGlobals "body_at" = some (some (.ref f23)))
    (l23 : K.lookup f23 = some ⟨oc23, od23, .func (PySem.W.fnOf "body_at" "body_at" (defArgs s_body_at) (defBody s_body_at) (defScope s_body_at) .none kV23 dc23 pm23 an23 cd23 ct23), sl23⟩)
    (c23 : PySem.W.codeIn K cd23 "body_at" = true) (k23 : PySem.W.keepIn K (.ref f23) = true)
    (a24 : PySem.W.nsIn K mainGlobals "piece_at" = some (some (.ref f24)))
    (l24 : K.lookup f24 = some ⟨oc24, od24, .func (PySem.W.fnOf "piece_at" "piece_at" (defArgs s_piece_at) (defBody s_piece_at) (defScope s_piece_at) .none kV24 dc24 pm24 an24 cd24 ct24), sl24⟩)
    (c24 : PySem.W.codeIn K cd24 "piece_at" = true) (k24 : PySem.W.keepIn K (.ref f24) = true)
    (a25 : PySem.W.nsIn K mainGlobals "_law_draw" = some (some (.ref f25)))
    (l25 : K.lookup f25 = some ⟨oc25, od25, .func (PySem.W.fnOf "_law_draw" "_law_draw" (defArgs s_l_draw) (defBody s_l_draw) (defScope s_l_draw) .none kV25 dc25 pm25 an25 cd25 ct25), sl25⟩)
    (c25 : PySem.W.codeIn K cd25 "_law_draw" = true) (k25 : PySem.W.keepIn K (.ref f25) = true)
    (a26 : PySem.W.nsIn K mainGlobals "_law_next" = some (some (.ref f26)))
    (l26 : K.lookup f26 = some ⟨oc26, od26, .func (PySem.W.fnOf "_law_next" "_law_next" (defArgs s_l_next) (defBody s_l_next) (defScope s_l_next) .none kV26 dc26 pm26 an26 cd26 ct26), sl26⟩)
    (c26 : PySem.W.codeIn K cd26 "_law_next" = true) (k26 : PySem.W.keepIn K (.ref f26) = true)
    (a27 : PySem.W.nsIn K mainGlobals "_law_sum" = some (some (.ref f27)))
    (l27 : K.lookup f27 = some ⟨oc27, od27, .func (PySem.W.fnOf "_law_sum" "_law_sum" (defArgs s_l_sum) (defBody s_l_sum) (defScope s_l_sum) .none kV27 dc27 pm27 an27 cd27 ct27), sl27⟩)
    (c27 : PySem.W.codeIn K cd27 "_law_sum" = true) (k27 : PySem.W.keepIn K (.ref f27) = true)
    (a28 : PySem.W.nsIn K mainGlobals "_law_bytes" = some (some (.ref f28)))
    (l28 : K.lookup f28 = some ⟨oc28, od28, .func (PySem.W.fnOf "_law_bytes" "_law_bytes" (defArgs s_l_bytes) (defBody s_l_bytes) (defScope s_l_bytes) .none kV28 dc28 pm28 an28 cd28 ct28), sl28⟩)
    (c28 : PySem.W.codeIn K cd28 "_law_bytes" = true) (k28 : PySem.W.keepIn K (.ref f28) = true)
    (a29 : PySem.W.nsIn K mainGlobals "_law_bits" = some (some (.ref f29)))
    (l29 : K.lookup f29 = some ⟨oc29, od29, .func (PySem.W.fnOf "_law_bits" "_law_bits" (defArgs s_l_bits) (defBody s_l_bits) (defScope s_l_bits) .none kV29 dc29 pm29 an29 cd29 ct29), sl29⟩)
    (c29 : PySem.W.codeIn K cd29 "_law_bits" = true) (k29 : PySem.W.keepIn K (.ref f29) = true)
    (a30 : PySem.W.nsIn K mainGlobals "_law_words" = some (some (.ref f30)))
    (l30 : K.lookup f30 = some ⟨oc30, od30, .func (PySem.W.fnOf "_law_words" "_law_words" (defArgs s_l_words) (defBody s_l_words) (defScope s_l_words) .none kV30 dc30 pm30 an30 cd30 ct30), sl30⟩)
    (c30 : PySem.W.codeIn K cd30 "_law_words" = true) (k30 : PySem.W.keepIn K (.ref f30) = true)
    (a31 : PySem.W.nsIn K mainGlobals "_law_room" = some (some (.ref f31)))
    (l31 : K.lookup f31 = some ⟨oc31, od31, .func (PySem.W.fnOf "_law_room" "_law_room" (defArgs s_l_room) (defBody s_l_room) (defScope s_l_room) .none kV31 dc31 pm31 an31 cd31 ct31), sl31⟩)
    (c31 : PySem.W.codeIn K cd31 "_law_room" = true) (k31 : PySem.W.keepIn K (.ref f31) = true)
    (a32 : PySem.W.nsIn K mainGlobals "_law_lengths" = some (some (.ref f32)))
    (l32 : K.lookup f32 = some ⟨oc32, od32, .func (PySem.W.fnOf "_law_lengths" "_law_lengths" (defArgs s_l_lengths) (defBody s_l_lengths) (defScope s_l_lengths) .none kV32 dc32 pm32 an32 cd32 ct32), sl32⟩)
    (c32 : PySem.W.codeIn K cd32 "_law_lengths" = true) (k32 : PySem.W.keepIn K (.ref f32) = true)
    (a33 : PySem.W.nsIn K mainGlobals "_law_overfull" = some (some (.ref f33)))
    (l33 : K.lookup f33 = some ⟨oc33, od33, .func (PySem.W.fnOf "_law_overfull" "_law_overfull" (defArgs s_l_overfull) (defBody s_l_overfull) (defScope s_l_overfull) .none kV33 dc33 pm33 an33 cd33 ct33), sl33⟩)
    (c33 : PySem.W.codeIn K cd33 "_law_overfull" = true) (k33 : PySem.W.keepIn K (.ref f33) = true)
    (a34 : PySem.W.nsIn K mainGlobals "_law_body" = some (some (.ref f34)))
    (l34 : K.lookup f34 = some ⟨oc34, od34, .func (PySem.W.fnOf "_law_body" "_law_body" (defArgs s_l_body) (defBody s_l_body) (defScope s_l_body) .none kV34 dc34 pm34 an34 cd34 ct34), sl34⟩)
    (c34 : PySem.W.codeIn K cd34 "_law_body" = true) (k34 : PySem.W.keepIn K (.ref f34) = true)
    (a35 : PySem.W.nsIn K mainGlobals "_law_piece" = some (some (.ref f35)))
    (l35 : K.lookup f35 = some ⟨oc35, od35, .func (PySem.W.fnOf "_law_piece" "_law_piece" (defArgs s_l_piece) (defBody s_l_piece) (defScope s_l_piece) .none kV35 dc35 pm35 an35 cd35 ct35), sl35⟩)
    (c35 : PySem.W.codeIn K cd35 "_law_piece" = true) (k35 : PySem.W.keepIn K (.ref f35) = true)
    (a36 : PySem.W.nsIn K mainGlobals "_law_take" = some (some (.ref f36)))
    (l36 : K.lookup f36 = some ⟨oc36, od36, .func (PySem.W.fnOf "_law_take" "_law_take" (defArgs s_l_take) (defBody s_l_take) (defScope s_l_take) .none kV36 dc36 pm36 an36 cd36 ct36), sl36⟩)
    (c36 : PySem.W.codeIn K cd36 "_law_take" = true) (k36 : PySem.W.keepIn K (.ref f36) = true)
    (a37 : PySem.W.nsIn K mainGlobals "_law_unpacked" = some (some (.ref f37)))
    (l37 : K.lookup f37 = some ⟨oc37, od37, .func (PySem.W.fnOf "_law_unpacked" "_law_unpacked" (defArgs s_l_unpacked) (defBody s_l_unpacked) (defScope s_l_unpacked) .none kV37 dc37 pm37 an37 cd37 ct37), sl37⟩)
    (c37 : PySem.W.codeIn K cd37 "_law_unpacked" = true) (k37 : PySem.W.keepIn K (.ref f37) = true)
    (a38 : PySem.W.nsIn K mainGlobals "_law_due" = some (some (.ref f38)))
    (l38 : K.lookup f38 = some ⟨oc38, od38, .func (PySem.W.fnOf "_law_due" "_law_due" (defArgs s_l_due) (defBody s_l_due) (defScope s_l_due) .none kV38 dc38 pm38 an38 cd38 ct38), sl38⟩)
    (c38 : PySem.W.codeIn K cd38 "_law_due" = true) (k38 : PySem.W.keepIn K (.ref f38) = true)
    (a39 : PySem.W.nsIn K mainGlobals "law" = some (some (.ref f39)))
    (l39 : K.lookup f39 = some ⟨oc39, od39, .func (PySem.W.fnOf "law" "law" (defArgs s_law) (defBody s_law) (defScope s_law) .none kV39 dc39 pm39 an39 cd39 ct39), sl39⟩)
    (c39 : PySem.W.codeIn K cd39 "law" = true) (k39 : PySem.W.keepIn K (.ref f39) = true)
    (qC_Reader : PySem.W.nsIn K mainGlobals "Reader" = some (some (.ref C_Reader)))
    (pgC_Reader : PySem.W.plainGet K C_Reader Str.empty = true) (hdC_Reader : PySem.W.hasDictIn K C_Reader = true) (poC_Reader : PySem.W.plainOver K C_Reader = true) (saC_Reader : PySem.W.findIn K (.ref C_Reader) "__setattr__" = some (some (.builtin "object.__setattr__"))) (mkC_Reader : PySem.W.makesIn K C_Reader = true) (kcC_Reader : PySem.W.keepIn K (.ref C_Reader) = true)
    (nC_Reader_bytes : PySem.W.findIn K (.ref C_Reader) "bytes" = some none)
    (nC_Reader_next : PySem.W.findIn K (.ref C_Reader) "next" = some none)
    (qC_Unpacker : PySem.W.nsIn K mainGlobals "Unpacker" = some (some (.ref C_Unpacker)))
    (pgC_Unpacker : PySem.W.plainGet K C_Unpacker Str.empty = true) (hdC_Unpacker : PySem.W.hasDictIn K C_Unpacker = true) (poC_Unpacker : PySem.W.plainOver K C_Unpacker = true) (saC_Unpacker : PySem.W.findIn K (.ref C_Unpacker) "__setattr__" = some (some (.builtin "object.__setattr__"))) (mkC_Unpacker : PySem.W.makesIn K C_Unpacker = true) (kcC_Unpacker : PySem.W.keepIn K (.ref C_Unpacker) = true)
    (nC_Unpacker_reader : PySem.W.findIn K (.ref C_Unpacker) "reader" = some none)
    (nC_Unpacker_many : PySem.W.findIn K (.ref C_Unpacker) "many" = some none)
    (nC_Unpacker_made : PySem.W.findIn K (.ref C_Unpacker) "made" = some none)
    (nC_Unpacker_known : PySem.W.findIn K (.ref C_Unpacker) "known" = some none)
    (qC_BadBits : PySem.W.nsIn K mainGlobals "BadBits" = some (some (.ref C_BadBits)))
    (k_BadBits : PySem.W.keepIn K (.ref C_BadBits) = true)
    (b_BadBits : PySem.W.subIn K (.ref C_BadBits) (.type "BaseException") = some true)
    (t_BadBits : PySem.W.typeIn K (.ref C_BadBits) = some (.type "type"))
    (i_BadBits : PySem.W.isClsIn K C_BadBits = true)
    (x_BadBits : PySem.W.excIn K C_BadBits [.type "ValueError", .type "Exception", .type "BaseException", .type "object"] "ValueError.__new__" = true)
    (gb_BadBits : PySem.W.findIn K (.ref C_BadBits) "__getattribute__" = some (some (.builtin "BaseException.__getattribute__")))
    (gg_BadBits : PySem.W.findIn K (.ref C_BadBits) "__getattr__" = some none)
    (hd_BadBits : PySem.W.hasDictIn K C_BadBits = true)
    (ca_BadBits : PySem.W.findIn K (.ref C_BadBits) "__class__" = some (some (.builtin "object.__class__")))
    (cn_BadBits : PySem.W.specialIn K (.builtin "object.__class__") "__get__" = some (some (.builtin "getset_descriptor.__get__")))
    (ct_BadBits : PySem.W.takesIn K (.builtin "object.__class__") = some true)
    (cm_BadBits : PySem.W.mroIn K C_BadBits (.type "object") = some true)
    (qC_BadTable : PySem.W.nsIn K mainGlobals "BadTable" = some (some (.ref C_BadTable)))
    (k_BadTable : PySem.W.keepIn K (.ref C_BadTable) = true)
    (b_BadTable : PySem.W.subIn K (.ref C_BadTable) (.type "BaseException") = some true)
    (t_BadTable : PySem.W.typeIn K (.ref C_BadTable) = some (.type "type"))
    (i_BadTable : PySem.W.isClsIn K C_BadTable = true)
    (x_BadTable : PySem.W.excIn K C_BadTable [.type "ValueError", .type "Exception", .type "BaseException", .type "object"] "ValueError.__new__" = true)
    (gb_BadTable : PySem.W.findIn K (.ref C_BadTable) "__getattribute__" = some (some (.builtin "BaseException.__getattribute__")))
    (gg_BadTable : PySem.W.findIn K (.ref C_BadTable) "__getattr__" = some none)
    (hd_BadTable : PySem.W.hasDictIn K C_BadTable = true)
    (ca_BadTable : PySem.W.findIn K (.ref C_BadTable) "__class__" = some (some (.builtin "object.__class__")))
    (cn_BadTable : PySem.W.specialIn K (.builtin "object.__class__") "__get__" = some (some (.builtin "getset_descriptor.__get__")))
    (ct_BadTable : PySem.W.takesIn K (.builtin "object.__class__") = some true)
    (cm_BadTable : PySem.W.mroIn K C_BadTable (.type "object") = some true)
    (z_all : PySem.W.nsIn K mainGlobals "all" = some none)
    (z_any : PySem.W.nsIn K mainGlobals "any" = some none)
    (z_bool : PySem.W.nsIn K mainGlobals "bool" = some none)
    (z_dict : PySem.W.nsIn K mainGlobals "dict" = some none)
    (z_enumerate : PySem.W.nsIn K mainGlobals "enumerate" = some none)
    (z_int : PySem.W.nsIn K mainGlobals "int" = some none)
    (z_isinstance : PySem.W.nsIn K mainGlobals "isinstance" = some none)
    (z_len : PySem.W.nsIn K mainGlobals "len" = some none)
    (z_list : PySem.W.nsIn K mainGlobals "list" = some none)
    (z_max : PySem.W.nsIn K mainGlobals "max" = some none)
    (z_min : PySem.W.nsIn K mainGlobals "min" = some none)
    (z_range : PySem.W.nsIn K mainGlobals "range" = some none)
    (z_sorted : PySem.W.nsIn K mainGlobals "sorted" = some none)
    (z_str : PySem.W.nsIn K mainGlobals "str" = some none)
    (z_sum : PySem.W.nsIn K mainGlobals "sum" = some none)
    (m_MOST_BITS : PySem.W.nsIn K mainGlobals "MOST_BITS" = some (some u_MOST_BITS)) (r_MOST_BITS : RelV (.int 64) u_MOST_BITS)
    (m_BEGIN : PySem.W.nsIn K mainGlobals "BEGIN" = some (some u_BEGIN)) (r_BEGIN : RelV (.int 65535) u_BEGIN)
    (m_FEED : PySem.W.nsIn K mainGlobals "FEED" = some (some u_FEED)) (r_FEED : RelV (.int 4129) u_FEED)
    (m_TOP : PySem.W.nsIn K mainGlobals "TOP" = some (some u_TOP)) (r_TOP : RelV (.int 32768) u_TOP)
    (m_MOST_SYMBOLS : PySem.W.nsIn K mainGlobals "MOST_SYMBOLS" = some (some u_MOST_SYMBOLS)) (r_MOST_SYMBOLS : RelV (.int 64) u_MOST_SYMBOLS)
    (m_LONGEST : PySem.W.nsIn K mainGlobals "LONGEST" = some (some u_LONGEST)) (r_LONGEST : RelV (.int 15) u_LONGEST)
    (m_MARK : PySem.W.nsIn K mainGlobals "MARK" = some (some (.ref u_MARK))) (kl_MARK : K.lookup u_MARK = some kob_MARK) (ky_MARK : kob_MARK.cls = .type "list") (kd_MARK : kob_MARK.dict = none) (ke_MARK : kob_MARK.data = .seq kits_MARK kn_MARK) (kz_MARK : kits_MARK.size ≤ sizeLine) (kv_MARK : Vals (List.map V.int [165, 90]) kits_MARK.toList)
    (m_SYMBOLS : PySem.W.nsIn K mainGlobals "SYMBOLS" = some (some u_SYMBOLS)) (r_SYMBOLS : RelV (.int 33) u_SYMBOLS)
    (m_BACK : PySem.W.nsIn K mainGlobals "BACK" = some (some u_BACK)) (r_BACK : RelV (.int 32) u_BACK)
    (m_TABLE_BYTES : PySem.W.nsIn K mainGlobals "TABLE_BYTES" = some (some u_TABLE_BYTES)) (r_TABLE_BYTES : RelV (.int 17) u_TABLE_BYTES)
    (m_MOST_NUMBER : PySem.W.nsIn K mainGlobals "MOST_NUMBER" = some (some u_MOST_NUMBER)) (r_MOST_NUMBER : RelV (.int 254) u_MOST_NUMBER)
    (m_PLAIN : PySem.W.nsIn K mainGlobals "PLAIN" = some (some u_PLAIN)) (r_PLAIN : RelV (.int 0) u_PLAIN)
    (m_PACKED : PySem.W.nsIn K mainGlobals "PACKED" = some (some u_PACKED)) (r_PACKED : RelV (.int 1) u_PACKED) :
    ∃ fd : FuncData, (∀ (s : Shared) (v : Value), BindsTo s fd ⟨[v], []⟩ [("_law_script", v)]) ∧ ∀ base : Heap, K.In base → base.Ns mainGlobals mg → FnOk l.prog w K mg base CX0 10 fa fd ["_law_script"] (spLaw K) := by
  have e := hfa.symm.trans (PySem.W.mg_of X G a39)
  cases e
  have F0 := fun_mk (st := s_is_whole_bits) l0 c0 k0
  have b0 := F0.binds (ps := ["thing"]) fun _ _ _ _ _ _ us hl => match us, hl with | [_], _ => rfl
  have F1 := fun_mk (st := s_refuse_unless) l1 c1 k1
  have b1 := F1.binds (ps := ["good"]) fun _ _ _ _ _ _ us hl => match us, hl with | [_], _ => rfl
  have F2 := fd_mk (st := s_Reader_init) l2 c2 k2 t2 s2 (dvs := [V.int 0]) (.cons r_d2_0 .nil) (by intro z; cases z)
  obtain ⟨ds2_0, v2_0, b2_0⟩ := F2.binds1 (ps := ["self", "row", "at"]) 3 1 (by intro z; cases z) rfl fun _ _ _ _ _ _ _ us its hl hi => match us, hl, its, hi with | [_, _, _], _, [_], _ => ⟨_, rfl, rfl⟩
  obtain ⟨ds2_1, v2_1, b2_1⟩ := F2.binds1 (ps := ["self", "row", "at"]) 2 0 (by intro z; cases z) rfl fun _ _ _ _ _ _ _ us its hl hi => match us, hl, its, hi with | [_, _], _, [_], _ => ⟨_, rfl, rfl⟩
  cases v2_0
  have F3 := fun_mk (st := s_Reader_left) l3 c3 k3
  have b3 := F3.binds (ps := ["self"]) fun _ _ _ _ _ _ us hl => match us, hl with | [_], _ => rfl
  have F4 := fun_mk (st := s_Reader_take) l4 c4 k4
  have b4 := F4.binds (ps := ["self", "many"]) fun _ _ _ _ _ _ us hl => match us, hl with | [_, _], _ => rfl
  have F5 := fun_mk (st := s_Reader_place) l5 c5 k5
  have b5 := F5.binds (ps := ["self"]) fun _ _ _ _ _ _ us hl => match us, hl with | [_], _ => rfl
  have F6 := fun_mk (st := s_Reader_ended) l6 c6 k6
  have b6 := F6.binds (ps := ["self"]) fun _ _ _ _ _ _ us hl => match us, hl with | [_], _ => rfl
  have F7 := fun_mk (st := s_crc_on) l7 c7 k7
  have b7 := F7.binds (ps := ["begun", "row"]) fun _ _ _ _ _ _ us hl => match us, hl with | [_, _], _ => rfl
  have F8 := fun_mk (st := s_crc) l8 c8 k8
  have b8 := F8.binds (ps := ["row"]) fun _ _ _ _ _ _ us hl => match us, hl with | [_], _ => rfl
  have F9 := fun_mk (st := s_crc_row) l9 c9 k9
  have b9 := F9.binds (ps := ["row"]) fun _ _ _ _ _ _ us hl => match us, hl with | [_], _ => rfl
  have F10 := fun_mk (st := s_is_whole_tables) l10 c10 k10
  have b10 := F10.binds (ps := ["thing"]) fun _ _ _ _ _ _ us hl => match us, hl with | [_], _ => rfl
  have F11 := fun_mk (st := s_is_list_of) l11 c11 k11
  have b11 := F11.binds (ps := ["thing", "low", "high"]) fun _ _ _ _ _ _ us hl => match us, hl with | [_, _, _], _ => rfl
  have F12 := fun_mk (st := s_room_of) l12 c12 k12
  have b12 := F12.binds (ps := ["lengths"]) fun _ _ _ _ _ _ us hl => match us, hl with | [_], _ => rfl
  have F13 := fun_mk (st := s_fits) l13 c13 k13
  have b13 := F13.binds (ps := ["lengths"]) fun _ _ _ _ _ _ us hl => match us, hl with | [_], _ => rfl
  have F14 := fun_mk (st := s_check_lengths) l14 c14 k14
  have b14 := F14.binds (ps := ["lengths"]) fun _ _ _ _ _ _ us hl => match us, hl with | [_], _ => rfl
  have F15 := fun_mk (st := s_words_of) l15 c15 k15
  have b15 := F15.binds (ps := ["lengths"]) fun _ _ _ _ _ _ us hl => match us, hl with | [_], _ => rfl
  have F16 := fun_mk (st := s_Unpacker_init) l16 c16 k16
  have b16 := F16.binds (ps := ["self", "reader", "words", "many"]) fun _ _ _ _ _ _ us hl => match us, hl with | [_, _, _, _], _ => rfl
  have F17 := fun_mk (st := s_Unpacker_next_symbol) l17 c17 k17
  have b17 := F17.binds (ps := ["self"]) fun _ _ _ _ _ _ us hl => match us, hl with | [_], _ => rfl
  have F18 := fun_mk (st := s_Unpacker_take_byte) l18 c18 k18
  have b18 := F18.binds (ps := ["self", "symbol"]) fun _ _ _ _ _ _ us hl => match us, hl with | [_, _], _ => rfl
  have F19 := fun_mk (st := s_Unpacker_take_back) l19 c19 k19
  have b19 := F19.binds (ps := ["self"]) fun _ _ _ _ _ _ us hl => match us, hl with | [_], _ => rfl
  have F20 := fun_mk (st := s_Unpacker_is_good) l20 c20 k20
  have b20 := F20.binds (ps := ["self"]) fun _ _ _ _ _ _ us hl => match us, hl with | [_], _ => rfl
  have F21 := fun_mk (st := s_table_at) l21 c21 k21
  have b21 := F21.binds (ps := ["reader"]) fun _ _ _ _ _ _ us hl => match us, hl with | [_], _ => rfl
  have F22 := fun_mk (st := s_packed_at) l22 c22 k22
  have b22 := F22.binds (ps := ["row", "place", "many"]) fun _ _ _ _ _ _ us hl => match us, hl with | [_, _, _], _ => rfl
  have F23 := fun_mk (st := s_body_at) l23 c23 k23
  have b23 := F23.binds (ps := ["row", "place", "kind", "many"]) fun _ _ _ _ _ _ us hl => match us, hl with | [_, _, _, _], _ => rfl
  have F24 := fun_mk (st := s_piece_at) l24 c24 k24
  have b24 := F24.binds (ps := ["row", "place"]) fun _ _ _ _ _ _ us hl => match us, hl with | [_, _], _ => rfl
  have F25 := fun_mk (st := s_l_draw) l25 c25 k25
  have b25 := F25.binds (ps := ["_law_cell"]) fun _ _ _ _ _ _ us hl => match us, hl with | [_], _ => rfl
  have F26 := fun_mk (st := s_l_next) l26 c26 k26
  have b26 := F26.binds (ps := ["_law_draw_here", "_law_size"]) fun _ _ _ _ _ _ us hl => match us, hl with | [_, _], _ => rfl
  have F27 := fun_mk (st := s_l_sum) l27 c27 k27
  have b27 := F27.binds (ps := ["_law_row"]) fun _ _ _ _ _ _ us hl => match us, hl with | [_], _ => rfl
  have F28 := fun_mk (st := s_l_bytes) l28 c28 k28
  have b28 := F28.binds (ps := ["_law_bits_here"]) fun _ _ _ _ _ _ us hl => match us, hl with | [_], _ => rfl
  have F29 := fun_mk (st := s_l_bits) l29 c29 k29
  have b29 := F29.binds (ps := ["_law_number", "_law_many"]) fun _ _ _ _ _ _ us hl => match us, hl with | [_, _], _ => rfl
  have F30 := fun_mk (st := s_l_words) l30 c30 k30
  have b30 := F30.binds (ps := ["_law_lengths_here"]) fun _ _ _ _ _ _ us hl => match us, hl with | [_], _ => rfl
  have F31 := fun_mk (st := s_l_room) l31 c31 k31
  have b31 := F31.binds (ps := ["_law_lengths_here"]) fun _ _ _ _ _ _ us hl => match us, hl with | [_], _ => rfl
  have F32 := fun_mk (st := s_l_lengths) l32 c32 k32
  have b32 := F32.binds (ps := ["_law_draw_here"]) fun _ _ _ _ _ _ us hl => match us, hl with | [_], _ => rfl
  have F33 := fun_mk (st := s_l_overfull) l33 c33 k33
  have b33 := F33.binds (ps := ["_law_draw_here"]) fun _ _ _ _ _ _ us hl => match us, hl with | [_], _ => rfl
  have F34 := fun_mk (st := s_l_body) l34 c34 k34
  have b34 := F34.binds (ps := ["_law_draw_here", "_law_many", "_law_spoilt"]) fun _ _ _ _ _ _ us hl => match us, hl with | [_, _, _], _ => rfl
  have F35 := fun_mk (st := s_l_piece) l35 c35 k35
  have b35 := F35.binds (ps := ["_law_draw_here"]) fun _ _ _ _ _ _ us hl => match us, hl with | [_], _ => rfl
  have F36 := fun_mk (st := s_l_take) l36 c36 k36
  have b36 := F36.binds (ps := ["_law_bits_here", "_law_words_here", "_law_many"]) fun _ _ _ _ _ _ us hl => match us, hl with | [_, _, _], _ => rfl
  have F37 := fun_mk (st := s_l_unpacked) l37 c37 k37
  have b37 := F37.binds (ps := ["_law_row", "_law_many"]) fun _ _ _ _ _ _ us hl => match us, hl with | [_, _], _ => rfl
  have F38 := fun_mk (st := s_l_due) l38 c38 k38
  have b38 := F38.binds (ps := ["_law_row", "_law_place"]) fun _ _ _ _ _ _ us hl => match us, hl with | [_, _], _ => rfl
  have F39 := fun_mk (st := s_law) l39 c39 k39
  have b39 := F39.binds (ps := ["_law_script"]) fun _ _ _ _ _ _ us hl => match us, hl with | [_], _ => rfl
  exact ⟨_, fun s v => .of_eq rfl, fun base _ _ => hlaw (K := K) (mg := mg) { a_is_whole_bits := f0, d_is_whole_bits := _, F_is_whole_bits := F0, b_is_whole_bits := b0, g_is_whole_bits := PySem.W.mg_of X G a0, a_refuse_unless := f1, d_refuse_unless := _, F_refuse_unless := F1, b_refuse_unless := b1, g_refuse_unless := PySem.W.mg_of X G a1, a_Reader_init := f2, d_Reader_init := _, F_Reader_init := F2, b_Reader_init := b2_0, ds_Reader_init_1 := ds2_1, v_Reader_init_1 := v2_1, b_Reader_init_1 := b2_1, a_Reader_left := f3, d_Reader_left := _, F_Reader_left := F3, b_Reader_left := b3, a_Reader_take := f4, d_Reader_take := _, F_Reader_take := F4, b_Reader_take := b4, a_Reader_place := f5, d_Reader_place := _, F_Reader_place := F5, b_Reader_place := b5, a_Reader_ended := f6, d_Reader_ended := _, F_Reader_ended := F6, b_Reader_ended := b6, a_crc_on := f7, d_crc_on := _, F_crc_on := F7, b_crc_on := b7, g_crc_on := PySem.W.mg_of X G a7, a_crc := f8, d_crc := _, F_crc := F8, b_crc := b8, g_crc := PySem.W.mg_of X G a8, a_crc_row := f9, d_crc_row := _, F_crc_row := F9, b_crc_row := b9, g_crc_row := PySem.W.mg_of X G a9, a_is_whole_tables := f10, d_is_whole_tables := _, F_is_whole_tables := F10, b_is_whole_tables := b10, g_is_whole_tables := PySem.W.mg_of X G a10, a_is_list_of := f11, d_is_list_of := _, F_is_list_of := F11, b_is_list_of := b11, g_is_list_of := PySem.W.mg_of X G a11, a_room_of := f12, d_room_of := _, F_room_of := F12, b_room_of := b12, g_room_of := PySem.W.mg_of X G a12, a_fits := f13, d_fits := _, F_fits := F13, b_fits := b13, g_fits := PySem.W.mg_of X G a13, a_check_lengths := f14, d_check_lengths := _, F_check_lengths := F14, b_check_lengths := b14, g_check_lengths := PySem.W.mg_of X G a14, a_words_of := f15, d_words_of := _, F_words_of := F15, b_words_of := b15, g_words_of := PySem.W.mg_of X G a15, a_Unpacker_init := f16, d_Unpacker_init := _, F_Unpacker_init := F16, b_Unpacker_init := b16, a_Unpacker_next_symbol := f17, d_Unpacker_next_symbol := _, F_Unpacker_next_symbol := F17, b_Unpacker_next_symbol := b17, a_Unpacker_take_byte := f18, d_Unpacker_take_byte := _, F_Unpacker_take_byte := F18, b_Unpacker_take_byte := b18, a_Unpacker_take_back := f19, d_Unpacker_take_back := _, F_Unpacker_take_back := F19, b_Unpacker_take_back := b19, a_Unpacker_is_good := f20, d_Unpacker_is_good := _, F_Unpacker_is_good := F20, b_Unpacker_is_good := b20, a_table_at := f21, d_table_at := _, F_table_at := F21, b_table_at := b21, g_table_at := PySem.W.mg_of X G a21, a_packed_at := f22, d_packed_at := _, F_packed_at := F22, b_packed_at := b22, g_packed_at := PySem.W.mg_of X G a22, a_body_at := f23, d_body_at := _, F_body_at := F23, b_body_at := b23, g_body_at := PySem.W.mg_of X G a23, a_piece_at := f24, d_piece_at := _, F_piece_at := F24, b_piece_at := b24, g_piece_at := PySem.W.mg_of X G a24, a_l_draw := f25, d_l_draw := _, F_l_draw := F25, b_l_draw := b25, g_l_draw := PySem.W.mg_of X G a25, a_l_next := f26, d_l_next := _, F_l_next := F26, b_l_next := b26, g_l_next := PySem.W.mg_of X G a26, a_l_sum := f27, d_l_sum := _, F_l_sum := F27, b_l_sum := b27, g_l_sum := PySem.W.mg_of X G a27, a_l_bytes := f28, d_l_bytes := _, F_l_bytes := F28, b_l_bytes := b28, g_l_bytes := PySem.W.mg_of X G a28, a_l_bits := f29, d_l_bits := _, F_l_bits := F29, b_l_bits := b29, g_l_bits := PySem.W.mg_of X G a29, a_l_words := f30, d_l_words := _, F_l_words := F30, b_l_words := b30, g_l_words := PySem.W.mg_of X G a30, a_l_room := f31, d_l_room := _, F_l_room := F31, b_l_room := b31, g_l_room := PySem.W.mg_of X G a31, a_l_lengths := f32, d_l_lengths := _, F_l_lengths := F32, b_l_lengths := b32, g_l_lengths := PySem.W.mg_of X G a32, a_l_overfull := f33, d_l_overfull := _, F_l_overfull := F33, b_l_overfull := b33, g_l_overfull := PySem.W.mg_of X G a33, a_l_body := f34, d_l_body := _, F_l_body := F34, b_l_body := b34, g_l_body := PySem.W.mg_of X G a34, a_l_piece := f35, d_l_piece := _, F_l_piece := F35, b_l_piece := b35, g_l_piece := PySem.W.mg_of X G a35, a_l_take := f36, d_l_take := _, F_l_take := F36, b_l_take := b36, g_l_take := PySem.W.mg_of X G a36, a_l_unpacked := f37, d_l_unpacked := _, F_l_unpacked := F37, b_l_unpacked := b37, g_l_unpacked := PySem.W.mg_of X G a37, a_l_due := f38, d_l_due := _, F_l_due := F38, b_l_due := b38, g_l_due := PySem.W.mg_of X G a38, a_law := fa, d_law := _, F_law := F39, b_law := b39, g_law := PySem.W.mg_of X G a39, C_Reader := C_Reader, g_Reader := PySem.W.mg_of X G qC_Reader, cl_Reader := ⟨pgC_Reader, hdC_Reader, poC_Reader, saC_Reader⟩, n_Reader_bytes := nC_Reader_bytes, n_Reader_next := nC_Reader_next, K_Reader := ⟨mkC_Reader, a2, i2, kcC_Reader⟩, M_Reader_left := ⟨a3, i3, k3⟩, M_Reader_take := ⟨a4, i4, k4⟩, M_Reader_place := ⟨a5, i5, k5⟩, M_Reader_ended := ⟨a6, i6, k6⟩, C_Unpacker := C_Unpacker, g_Unpacker := PySem.W.mg_of X G qC_Unpacker, cl_Unpacker := ⟨pgC_Unpacker, hdC_Unpacker, poC_Unpacker, saC_Unpacker⟩, n_Unpacker_reader := nC_Unpacker_reader, n_Unpacker_many := nC_Unpacker_many, n_Unpacker_made := nC_Unpacker_made, n_Unpacker_known := nC_Unpacker_known, K_Unpacker := ⟨mkC_Unpacker, a16, i16, kcC_Unpacker⟩, M_Unpacker_next_symbol := ⟨a17, i17, k17⟩, M_Unpacker_take_byte := ⟨a18, i18, k18⟩, M_Unpacker_take_back := ⟨a19, i19, k19⟩, M_Unpacker_is_good := ⟨a20, i20, k20⟩, C_BadBits := C_BadBits, g_BadBits := PySem.W.mg_of X G qC_BadBits, k_BadBits := k_BadBits, b_BadBits := b_BadBits, t_BadBits := t_BadBits, i_BadBits := i_BadBits, x_BadBits := x_BadBits, gb_BadBits := gb_BadBits, gg_BadBits := gg_BadBits, hd_BadBits := hd_BadBits, ca_BadBits := ca_BadBits, cn_BadBits := cn_BadBits, ct_BadBits := ct_BadBits, cm_BadBits := cm_BadBits, xc_BadBits := ⟨gb_BadBits, gg_BadBits, b_BadBits, hd_BadBits, ca_BadBits, cn_BadBits, ct_BadBits, cm_BadBits⟩, C_BadTable := C_BadTable, g_BadTable := PySem.W.mg_of X G qC_BadTable, k_BadTable := k_BadTable, b_BadTable := b_BadTable, t_BadTable := t_BadTable, i_BadTable := i_BadTable, x_BadTable := x_BadTable, gb_BadTable := gb_BadTable, gg_BadTable := gg_BadTable, hd_BadTable := hd_BadTable, ca_BadTable := ca_BadTable, cn_BadTable := cn_BadTable, ct_BadTable := ct_BadTable, cm_BadTable := cm_BadTable, xc_BadTable := ⟨gb_BadTable, gg_BadTable, b_BadTable, hd_BadTable, ca_BadTable, cn_BadTable, ct_BadTable, cm_BadTable⟩, z_all := PySem.W.mg_none_of X G z_all, z_any := PySem.W.mg_none_of X G z_any, z_bool := PySem.W.mg_none_of X G z_bool, z_dict := PySem.W.mg_none_of X G z_dict, z_enumerate := PySem.W.mg_none_of X G z_enumerate, z_int := PySem.W.mg_none_of X G z_int, z_isinstance := PySem.W.mg_none_of X G z_isinstance, z_len := PySem.W.mg_none_of X G z_len, z_list := PySem.W.mg_none_of X G z_list, z_max := PySem.W.mg_none_of X G z_max, z_min := PySem.W.mg_none_of X G z_min, z_range := PySem.W.mg_none_of X G z_range, z_sorted := PySem.W.mg_none_of X G z_sorted, z_str := PySem.W.mg_none_of X G z_str, z_sum := PySem.W.mg_none_of X G z_sum, u_MOST_BITS := u_MOST_BITS, m_MOST_BITS := PySem.W.mg_of X G m_MOST_BITS, r_MOST_BITS := r_MOST_BITS, u_BEGIN := u_BEGIN, m_BEGIN := PySem.W.mg_of X G m_BEGIN, r_BEGIN := r_BEGIN, u_FEED := u_FEED, m_FEED := PySem.W.mg_of X G m_FEED, r_FEED := r_FEED, u_TOP := u_TOP, m_TOP := PySem.W.mg_of X G m_TOP, r_TOP := r_TOP, u_MOST_SYMBOLS := u_MOST_SYMBOLS, m_MOST_SYMBOLS := PySem.W.mg_of X G m_MOST_SYMBOLS, r_MOST_SYMBOLS := r_MOST_SYMBOLS, u_LONGEST := u_LONGEST, m_LONGEST := PySem.W.mg_of X G m_LONGEST, r_LONGEST := r_LONGEST, u_MARK := u_MARK, m_MARK := PySem.W.mg_of X G m_MARK, r_MARK := ⟨_, _, _, kl_MARK, ky_MARK, kd_MARK, ke_MARK, kz_MARK, kv_MARK⟩, u_SYMBOLS := u_SYMBOLS, m_SYMBOLS := PySem.W.mg_of X G m_SYMBOLS, r_SYMBOLS := r_SYMBOLS, u_BACK := u_BACK, m_BACK := PySem.W.mg_of X G m_BACK, r_BACK := r_BACK, u_TABLE_BYTES := u_TABLE_BYTES, m_TABLE_BYTES := PySem.W.mg_of X G m_TABLE_BYTES, r_TABLE_BYTES := r_TABLE_BYTES, u_MOST_NUMBER := u_MOST_NUMBER, m_MOST_NUMBER := PySem.W.mg_of X G m_MOST_NUMBER, r_MOST_NUMBER := r_MOST_NUMBER, u_PLAIN := u_PLAIN, m_PLAIN := PySem.W.mg_of X G m_PLAIN, r_PLAIN := r_PLAIN, u_PACKED := u_PACKED, m_PACKED := PySem.W.mg_of X G m_PACKED, r_PACKED := r_PACKED }⟩
def HL : Prop := ∀ {P : Program} {w : World} {K : PySem.W.Frag} {mg : Str → Option Value} {base : Heap} (T : Tx K mg), FnOk P w K mg base CX0 10 T.a_law T.d_law ["_law_script"] (spLaw K)
theorem zHfacts (hlaw : HL) {l : PySem.W.OpenLaw} {w : World} {K : PySem.W.Frag} {h : Heap} {mg : Str → Option Value} {fa : Addr} (X : K.In h) (G : h.Ns mainGlobals mg) (hfa : mg "law" = some (.ref fa)) (c : Hd.Says zHfn zHfd zHx K) :
    ∃ fd : FuncData, (∀ (s : Shared) (v : Value), BindsTo s fd ⟨[v], []⟩ [("_law_script", v)]) ∧ ∀ base : Heap, K.In base → base.Ns mainGlobals mg → FnOk l.prog w K mg base CX0 10 fa fd ["_law_script"] (spLaw K) := by
  obtain ⟨oc0, od0, sl0, kV0, dc0, pm0, an0, cd0, ct0, l0, c0⟩ := c.def_ 0 (d := zHfn0.getD 0 zHfnZ) rfl
  obtain ⟨oc1, od1, sl1, kV1, dc1, pm1, an1, cd1, ct1, l1, c1⟩ := c.def_ 1 (d := zHfn0.getD 1 zHfnZ) rfl
  obtain ⟨oc3, od3, sl3, kV3, dc3, pm3, an3, cd3, ct3, l3, c3⟩ := c.def_ 2 (d := zHfn0.getD 2 zHfnZ) rfl
  obtain ⟨oc4, od4, sl4, kV4, dc4, pm4, an4, cd4, ct4, l4, c4⟩ := c.def_ 3 (d := zHfn0.getD 3 zHfnZ) rfl
  obtain ⟨oc5, od5, sl5, kV5, dc5, pm5, an5, cd5, ct5, l5, c5⟩ := c.def_ 4 (d := zHfn0.getD 4 zHfnZ) rfl
  obtain ⟨oc6, od6, sl6, kV6, dc6, pm6, an6, cd6, ct6, l6, c6⟩ := c.def_ 5 (d := zHfn0.getD 5 zHfnZ) rfl
  obtain ⟨oc7, od7, sl7, kV7, dc7, pm7, an7, cd7, ct7, l7, c7⟩ := c.def_ 6 (d := zHfn0.getD 6 zHfnZ) rfl
  obtain ⟨oc8, od8, sl8, kV8, dc8, pm8, an8, cd8, ct8, l8, c8⟩ := c.def_ 7 (d := zHfn0.getD 7 zHfnZ) rfl
  obtain ⟨oc9, od9, sl9, kV9, dc9, pm9, an9, cd9, ct9, l9, c9⟩ := c.def_ 8 (d := zHfn0.getD 8 zHfnZ) rfl
  obtain ⟨oc10, od10, sl10, kV10, dc10, pm10, an10, cd10, ct10, l10, c10⟩ := c.def_ 9 (d := zHfn0.getD 9 zHfnZ) rfl
  obtain ⟨oc11, od11, sl11, kV11, dc11, pm11, an11, cd11, ct11, l11, c11⟩ := c.def_ 10 (d := zHfn0.getD 10 zHfnZ) rfl
  obtain ⟨oc12, od12, sl12, kV12, dc12, pm12, an12, cd12, ct12, l12, c12⟩ := c.def_ 11 (d := zHfn0.getD 11 zHfnZ) rfl
  obtain ⟨oc13, od13, sl13, kV13, dc13, pm13, an13, cd13, ct13, l13, c13⟩ := c.def_ 12 (d := zHfn0.getD 12 zHfnZ) rfl
  obtain ⟨oc14, od14, sl14, kV14, dc14, pm14, an14, cd14, ct14, l14, c14⟩ := c.def_ 13 (d := zHfn0.getD 13 zHfnZ) rfl
  obtain ⟨oc15, od15, sl15, kV15, dc15, pm15, an15, cd15, ct15, l15, c15⟩ := c.def_ 14 (d := zHfn0.getD 14 zHfnZ) rfl
  obtain ⟨oc16, od16, sl16, kV16, dc16, pm16, an16, cd16, ct16, l16, c16⟩ := c.def_ 15 (d := zHfn0.getD 15 zHfnZ) rfl
  obtain ⟨oc17, od17, sl17, kV17, dc17, pm17, an17, cd17, ct17, l17, c17⟩ := c.def_ 16 (d := zHfn0.getD 16 zHfnZ) rfl
  obtain ⟨oc18, od18, sl18, kV18, dc18, pm18, an18, cd18, ct18, l18, c18⟩ := c.def_ 17 (d := zHfn0.getD 17 zHfnZ) rfl
  obtain ⟨oc19, od19, sl19, kV19, dc19, pm19, an19, cd19, ct19, l19, c19⟩ := c.def_ 18 (d := zHfn0.getD 18 zHfnZ) rfl
  obtain ⟨oc20, od20, sl20, kV20, dc20, pm20, an20, cd20, ct20, l20, c20⟩ := c.def_ 19 (d := zHfn0.getD 19 zHfnZ) rfl
  obtain ⟨oc21, od21, sl21, kV21, dc21, pm21, an21, cd21, ct21, l21, c21⟩ := c.def_ 20 (d := zHfn0.getD 20 zHfnZ) rfl
  obtain ⟨oc22, od22, sl22, kV22, dc22, pm22, an22, cd22, ct22, l22, c22⟩ := c.def_ 21 (d := zHfn0.getD 21 zHfnZ) rfl
  obtain ⟨oc23, od23, sl23, kV23, dc23, pm23, an23, cd23, ct23, l23, c23⟩ := c.def_ 22 (d := zHfn0.getD 22 zHfnZ) rfl
  obtain ⟨oc24, od24, sl24, kV24, dc24, pm24, an24, cd24, ct24, l24, c24⟩ := c.def_ 23 (d := zHfn0.getD 23 zHfnZ) rfl
  obtain ⟨oc25, od25, sl25, kV25, dc25, pm25, an25, cd25, ct25, l25, c25⟩ := c.def_ 24 (d := zHfn0.getD 24 zHfnZ) rfl
  obtain ⟨oc26, od26, sl26, kV26, dc26, pm26, an26, cd26, ct26, l26, c26⟩ := c.def_ 25 (d := zHfn0.getD 25 zHfnZ) rfl
  obtain ⟨oc27, od27, sl27, kV27, dc27, pm27, an27, cd27, ct27, l27, c27⟩ := c.def_ 26 (d := zHfn0.getD 26 zHfnZ) rfl
  obtain ⟨oc28, od28, sl28, kV28, dc28, pm28, an28, cd28, ct28, l28, c28⟩ := c.def_ 27 (d := zHfn0.getD 27 zHfnZ) rfl
  obtain ⟨oc29, od29, sl29, kV29, dc29, pm29, an29, cd29, ct29, l29, c29⟩ := c.def_ 28 (d := zHfn0.getD 28 zHfnZ) rfl
  obtain ⟨oc30, od30, sl30, kV30, dc30, pm30, an30, cd30, ct30, l30, c30⟩ := c.def_ 29 (d := zHfn0.getD 29 zHfnZ) rfl
  obtain ⟨oc31, od31, sl31, kV31, dc31, pm31, an31, cd31, ct31, l31, c31⟩ := c.def_ 30 (d := zHfn0.getD 30 zHfnZ) rfl
  obtain ⟨oc32, od32, sl32, kV32, dc32, pm32, an32, cd32, ct32, l32, c32⟩ := c.def_ 31 (d := zHfn0.getD 31 zHfnZ) rfl
  obtain ⟨oc33, od33, sl33, kV33, dc33, pm33, an33, cd33, ct33, l33, c33⟩ := c.def_ 32 (d := zHfn0.getD 32 zHfnZ) rfl
  obtain ⟨oc34, od34, sl34, kV34, dc34, pm34, an34, cd34, ct34, l34, c34⟩ := c.def_ 33 (d := zHfn0.getD 33 zHfnZ) rfl
  obtain ⟨oc35, od35, sl35, kV35, dc35, pm35, an35, cd35, ct35, l35, c35⟩ := c.def_ 34 (d := zHfn0.getD 34 zHfnZ) rfl
  obtain ⟨oc36, od36, sl36, kV36, dc36, pm36, an36, cd36, ct36, l36, c36⟩ := c.def_ 35 (d := zHfn0.getD 35 zHfnZ) rfl
  obtain ⟨oc37, od37, sl37, kV37, dc37, pm37, an37, cd37, ct37, l37, c37⟩ := c.def_ 36 (d := zHfn0.getD 36 zHfnZ) rfl
  obtain ⟨oc38, od38, sl38, kV38, dc38, pm38, an38, cd38, ct38, l38, c38⟩ := c.def_ 37 (d := zHfn0.getD 37 zHfnZ) rfl
  obtain ⟨oc39, od39, sl39, kV39, dc39, pm39, an39, cd39, ct39, l39, c39⟩ := c.def_ 38 (d := zHfn0.getD 38 zHfnZ) rfl
  obtain ⟨oc2, od2, sl2, T2, kV2, dc2, pm2, an2, cd2, ct2, o2, us2, n2, l2, c2, t2, s2, vs2⟩ := Hd.dfAt_ok (dvs := [V.int 0]) (c.dflt 0 (d := zHfd0.getD 0 zHfdZ) rfl) (c.fact (l := zHx0) 0 0 rfl rfl)
  cases vs2 with | cons r_d2_0 vs2 =>
  cases vs2
  obtain ⟨u_MOST_BITS, m_MOST_BITS, r_MOST_BITS⟩ := Hd.relAt_ok (c.fact (l := zHx0) 0 1 rfl rfl)
  obtain ⟨u_BEGIN, m_BEGIN, r_BEGIN⟩ := Hd.relAt_ok (c.fact (l := zHx0) 0 2 rfl rfl)
  obtain ⟨u_FEED, m_FEED, r_FEED⟩ := Hd.relAt_ok (c.fact (l := zHx0) 0 3 rfl rfl)
  obtain ⟨u_TOP, m_TOP, r_TOP⟩ := Hd.relAt_ok (c.fact (l := zHx0) 0 4 rfl rfl)
  obtain ⟨u_MOST_SYMBOLS, m_MOST_SYMBOLS, r_MOST_SYMBOLS⟩ := Hd.relAt_ok (c.fact (l := zHx0) 0 5 rfl rfl)
  obtain ⟨u_LONGEST, m_LONGEST, r_LONGEST⟩ := Hd.relAt_ok (c.fact (l := zHx0) 0 6 rfl rfl)
  obtain ⟨kob_MARK, kits_MARK, kn_MARK, kl_MARK, ky_MARK, kd_MARK, ke_MARK, kz_MARK, kv_MARK⟩ := Hd.seqAt_ok (c.fact (l := zHx0) 0 7 rfl rfl)
  obtain ⟨u_SYMBOLS, m_SYMBOLS, r_SYMBOLS⟩ := Hd.relAt_ok (c.fact (l := zHx0) 0 8 rfl rfl)
  obtain ⟨u_BACK, m_BACK, r_BACK⟩ := Hd.relAt_ok (c.fact (l := zHx0) 0 9 rfl rfl)
  obtain ⟨u_TABLE_BYTES, m_TABLE_BYTES, r_TABLE_BYTES⟩ := Hd.relAt_ok (c.fact (l := zHx0) 0 10 rfl rfl)
  obtain ⟨u_MOST_NUMBER, m_MOST_NUMBER, r_MOST_NUMBER⟩ := Hd.relAt_ok (c.fact (l := zHx0) 0 11 rfl rfl)
  obtain ⟨u_PLAIN, m_PLAIN, r_PLAIN⟩ := Hd.relAt_ok (c.fact (l := zHx0) 0 12 rfl rfl)
  obtain ⟨u_PACKED, m_PACKED, r_PACKED⟩ := Hd.relAt_ok (c.fact (l := zHx0) 0 13 rfl rfl)
  exact all_mk @hlaw X G hfa
    (of_decide_eq_true (c.fact (l := zHx0) 0 14 rfl rfl))
    l0
    c0
    (c.fact (l := zHx0) 0 15 rfl rfl)
    (of_decide_eq_true (c.fact (l := zHx0) 0 16 rfl rfl))
    l1
    c1
    (c.fact (l := zHx0) 0 17 rfl rfl)
    (of_decide_eq_true (c.fact (l := zHx0) 0 18 rfl rfl))
    (c.fact (l := zHx0) 0 19 rfl rfl)
    l2
    c2
    (c.fact (l := zHx0) 0 20 rfl rfl)
    t2
    s2
    r_d2_0
    (of_decide_eq_true (c.fact (l := zHx0) 0 21 rfl rfl))
    (c.fact (l := zHx0) 0 22 rfl rfl)
    l3
    c3
    (c.fact (l := zHx0) 0 23 rfl rfl)
    (of_decide_eq_true (c.fact (l := zHx0) 0 24 rfl rfl))
    (c.fact (l := zHx0) 0 25 rfl rfl)
    l4
    c4
    (c.fact (l := zHx0) 0 26 rfl rfl)
    (of_decide_eq_true (c.fact (l := zHx0) 0 27 rfl rfl))
    (c.fact (l := zHx0) 0 28 rfl rfl)
    l5
    c5
    (c.fact (l := zHx0) 0 29 rfl rfl)
    (of_decide_eq_true (c.fact (l := zHx0) 0 30 rfl rfl))
    (c.fact (l := zHx0) 0 31 rfl rfl)
    l6
    c6
    (c.fact (l := zHx0) 0 32 rfl rfl)
    (of_decide_eq_true (c.fact (l := zHx0) 0 33 rfl rfl))
    l7
    c7
    (c.fact (l := zHx0) 0 34 rfl rfl)
    (of_decide_eq_true (c.fact (l := zHx0) 0 35 rfl rfl))
    l8
    c8
    (c.fact (l := zHx0) 0 36 rfl rfl)
    (of_decide_eq_true (c.fact (l := zHx0) 0 37 rfl rfl))
    l9
    c9
    (c.fact (l := zHx0) 0 38 rfl rfl)
    (of_decide_eq_true (c.fact (l := zHx0) 0 39 rfl rfl))
    l10
    c10
    (c.fact (l := zHx1) 1 0 rfl rfl)
    (of_decide_eq_true (c.fact (l := zHx1) 1 1 rfl rfl))
    l11
    c11
    (c.fact (l := zHx1) 1 2 rfl rfl)
    (of_decide_eq_true (c.fact (l := zHx1) 1 3 rfl rfl))
    l12
    c12
    (c.fact (l := zHx1) 1 4 rfl rfl)
    (of_decide_eq_true (c.fact (l := zHx1) 1 5 rfl rfl))
    l13
    c13
    (c.fact (l := zHx1) 1 6 rfl rfl)
    (of_decide_eq_true (c.fact (l := zHx1) 1 7 rfl rfl))
    l14
    c14
    (c.fact (l := zHx1) 1 8 rfl rfl)
    (of_decide_eq_true (c.fact (l := zHx1) 1 9 rfl rfl))
    l15
    c15
    (c.fact (l := zHx1) 1 10 rfl rfl)
    (of_decide_eq_true (c.fact (l := zHx1) 1 11 rfl rfl))
    (c.fact (l := zHx1) 1 12 rfl rfl)
    l16
    c16
    (c.fact (l := zHx1) 1 13 rfl rfl)
    (of_decide_eq_true (c.fact (l := zHx1) 1 14 rfl rfl))
    (c.fact (l := zHx1) 1 15 rfl rfl)
    l17
    c17
    (c.fact (l := zHx1) 1 16 rfl rfl)
    (of_decide_eq_true (c.fact (l := zHx1) 1 17 rfl rfl))
    (c.fact (l := zHx1) 1 18 rfl rfl)
    l18
    c18
    (c.fact (l := zHx1) 1 19 rfl rfl)
    (of_decide_eq_true (c.fact (l := zHx1) 1 20 rfl rfl))
    (c.fact (l := zHx1) 1 21 rfl rfl)
    l19
    c19
    (c.fact (l := zHx1) 1 22 rfl rfl)
    (of_decide_eq_true (c.fact (l := zHx1) 1 23 rfl rfl))
    (c.fact (l := zHx1) 1 24 rfl rfl)
    l20
    c20
    (c.fact (l := zHx1) 1 25 rfl rfl)
    (of_decide_eq_true (c.fact (l := zHx1) 1 26 rfl rfl))
    l21
    c21
    (c.fact (l := zHx1) 1 27 rfl rfl)
    (of_decide_eq_true (c.fact (l := zHx1) 1 28 rfl rfl))
    l22
    c22
    (c.fact (l := zHx1) 1 29 rfl rfl)
    (of_decide_eq_true (c.fact (l := zHx1) 1 30 rfl rfl))
    l23
    c23
    (c.fact (l := zHx1) 1 31 rfl rfl)
    (of_decide_eq_true (c.fact (l := zHx1) 1 32 rfl rfl))
    l24
    c24
    (c.fact (l := zHx1) 1 33 rfl rfl)
    (of_decide_eq_true (c.fact (l := zHx1) 1 34 rfl rfl))
    l25
    c25
    (c.fact (l := zHx1) 1 35 rfl rfl)
    (of_decide_eq_true (c.fact (l := zHx1) 1 36 rfl rfl))
    l26
    c26
    (c.fact (l := zHx1) 1 37 rfl rfl)
    (of_decide_eq_true (c.fact (l := zHx1) 1 38 rfl rfl))
    l27
    c27
    (c.fact (l := zHx1) 1 39 rfl rfl)
    (of_decide_eq_true (c.fact (l := zHx2) 2 0 rfl rfl))
    l28
    c28
    (c.fact (l := zHx2) 2 1 rfl rfl)
    (of_decide_eq_true (c.fact (l := zHx2) 2 2 rfl rfl))
    l29
    c29
    (c.fact (l := zHx2) 2 3 rfl rfl)
    (of_decide_eq_true (c.fact (l := zHx2) 2 4 rfl rfl))
    l30
    c30
    (c.fact (l := zHx2) 2 5 rfl rfl)
    (of_decide_eq_true (c.fact (l := zHx2) 2 6 rfl rfl))
    l31
    c31
    (c.fact (l := zHx2) 2 7 rfl rfl)
    (of_decide_eq_true (c.fact (l := zHx2) 2 8 rfl rfl))
    l32
    c32
    (c.fact (l := zHx2) 2 9 rfl rfl)
    (of_decide_eq_true (c.fact (l := zHx2) 2 10 rfl rfl))
    l33
    c33
    (c.fact (l := zHx2) 2 11 rfl rfl)
    (of_decide_eq_true (c.fact (l := zHx2) 2 12 rfl rfl))
    l34
    c34
    (c.fact (l := zHx2) 2 13 rfl rfl)
    (of_decide_eq_true (c.fact (l := zHx2) 2 14 rfl rfl))
    l35
    c35
    (c.fact (l := zHx2) 2 15 rfl rfl)
    (of_decide_eq_true (c.fact (l := zHx2) 2 16 rfl rfl))
    l36
    c36
    (c.fact (l := zHx2) 2 17 rfl rfl)
    (of_decide_eq_true (c.fact (l := zHx2) 2 18 rfl rfl))
    l37
    c37
    (c.fact (l := zHx2) 2 19 rfl rfl)
    (of_decide_eq_true (c.fact (l := zHx2) 2 20 rfl rfl))
    l38
    c38
    (c.fact (l := zHx2) 2 21 rfl rfl)
    (of_decide_eq_true (c.fact (l := zHx2) 2 22 rfl rfl))
    l39
    c39
    (c.fact (l := zHx2) 2 23 rfl rfl)
    (of_decide_eq_true (c.fact (l := zHx2) 2 24 rfl rfl))
    (c.fact (l := zHx2) 2 25 rfl rfl)
    (c.fact (l := zHx2) 2 26 rfl rfl)
    (c.fact (l := zHx2) 2 27 rfl rfl)
    (of_decide_eq_true (c.fact (l := zHx2) 2 28 rfl rfl))
    (c.fact (l := zHx2) 2 29 rfl rfl)
    (c.fact (l := zHx2) 2 30 rfl rfl)
    (of_decide_eq_true (c.fact (l := zHx2) 2 31 rfl rfl))
    (of_decide_eq_true (c.fact (l := zHx2) 2 32 rfl rfl))
    (of_decide_eq_true (c.fact (l := zHx2) 2 33 rfl rfl))
    (c.fact (l := zHx2) 2 34 rfl rfl)
    (c.fact (l := zHx2) 2 35 rfl rfl)
    (c.fact (l := zHx2) 2 36 rfl rfl)
    (of_decide_eq_true (c.fact (l := zHx2) 2 37 rfl rfl))
    (c.fact (l := zHx2) 2 38 rfl rfl)
    (c.fact (l := zHx2) 2 39 rfl rfl)
    (of_decide_eq_true (c.fact (l := zHx3) 3 0 rfl rfl))
    (of_decide_eq_true (c.fact (l := zHx3) 3 1 rfl rfl))
    (of_decide_eq_true (c.fact (l := zHx3) 3 2 rfl rfl))
    (of_decide_eq_true (c.fact (l := zHx3) 3 3 rfl rfl))
    (of_decide_eq_true (c.fact (l := zHx3) 3 4 rfl rfl))
    (c.fact (l := zHx3) 3 5 rfl rfl)
    (of_decide_eq_true (c.fact (l := zHx3) 3 6 rfl rfl))
    (of_decide_eq_true (c.fact (l := zHx3) 3 7 rfl rfl))
    (c.fact (l := zHx3) 3 8 rfl rfl)
    (c.fact (l := zHx3) 3 9 rfl rfl)
    (of_decide_eq_true (c.fact (l := zHx3) 3 10 rfl rfl))
    (of_decide_eq_true (c.fact (l := zHx3) 3 11 rfl rfl))
    (c.fact (l := zHx3) 3 12 rfl rfl)
    (of_decide_eq_true (c.fact (l := zHx3) 3 13 rfl rfl))
    (of_decide_eq_true (c.fact (l := zHx3) 3 14 rfl rfl))
    (of_decide_eq_true (c.fact (l := zHx3) 3 15 rfl rfl))
    (of_decide_eq_true (c.fact (l := zHx3) 3 16 rfl rfl))
    (of_decide_eq_true (c.fact (l := zHx3) 3 17 rfl rfl))
    (c.fact (l := zHx3) 3 18 rfl rfl)
    (of_decide_eq_true (c.fact (l := zHx3) 3 19 rfl rfl))
    (of_decide_eq_true (c.fact (l := zHx3) 3 20 rfl rfl))
    (c.fact (l := zHx3) 3 21 rfl rfl)
    (c.fact (l := zHx3) 3 22 rfl rfl)
    (of_decide_eq_true (c.fact (l := zHx3) 3 23 rfl rfl))
    (of_decide_eq_true (c.fact (l := zHx3) 3 24 rfl rfl))
    (c.fact (l := zHx3) 3 25 rfl rfl)
    (of_decide_eq_true (c.fact (l := zHx3) 3 26 rfl rfl))
    (of_decide_eq_true (c.fact (l := zHx3) 3 27 rfl rfl))
    (of_decide_eq_true (c.fact (l := zHx3) 3 28 rfl rfl))
    (of_decide_eq_true (c.fact (l := zHx3) 3 29 rfl rfl))
    (of_decide_eq_true (c.fact (l := zHx3) 3 30 rfl rfl))
    (of_decide_eq_true (c.fact (l := zHx3) 3 31 rfl rfl))
    (of_decide_eq_true (c.fact (l := zHx3) 3 32 rfl rfl))
    (of_decide_eq_true (c.fact (l := zHx3) 3 33 rfl rfl))
    (of_decide_eq_true (c.fact (l := zHx3) 3 34 rfl rfl))
    (of_decide_eq_true (c.fact (l := zHx3) 3 35 rfl rfl))
    (of_decide_eq_true (c.fact (l := zHx3) 3 36 rfl rfl))
    (of_decide_eq_true (c.fact (l := zHx3) 3 37 rfl rfl))
    (of_decide_eq_true (c.fact (l := zHx3) 3 38 rfl rfl))
    (of_decide_eq_true (c.fact (l := zHx3) 3 39 rfl rfl))
    (of_decide_eq_true (c.fact (l := zHx4) 4 0 rfl rfl))
    (of_decide_eq_true (c.fact (l := zHx4) 4 1 rfl rfl))
    (of_decide_eq_true (c.fact (l := zHx4) 4 2 rfl rfl))
    (of_decide_eq_true (c.fact (l := zHx4) 4 3 rfl rfl))
    (of_decide_eq_true (c.fact (l := zHx4) 4 4 rfl rfl))
    m_MOST_BITS
    r_MOST_BITS
    m_BEGIN
    r_BEGIN
    m_FEED
    r_FEED
    m_TOP
    r_TOP
    m_MOST_SYMBOLS
    r_MOST_SYMBOLS
    m_LONGEST
    r_LONGEST
    (of_decide_eq_true (c.fact (l := zHx4) 4 5 rfl rfl))
    kl_MARK
    ky_MARK
    kd_MARK
    ke_MARK
    kz_MARK
    kv_MARK
    m_SYMBOLS
    r_SYMBOLS
    m_BACK
    r_BACK
    m_TABLE_BYTES
    r_TABLE_BYTES
    m_MOST_NUMBER
    r_MOST_NUMBER
    m_PLAIN
    r_PLAIN
    m_PACKED
    r_PACKED
end K32
open PySem PySem.W PySem.Calls PyProof.Rows in
set_option maxRecDepth 100000 in
set_option maxHeartbeats 0 in
theorem K32.early (hlaw : K32.HL) : PySem.Challenge.rw_tornshelf_k32_pieces_at_places.Holds := by
  w_on; o_law
  refine HandSHeadRun.head_any (r := OpenLaw.row PySem.Challenge.rw_tornshelf_k32_pieces_at_places) (q := view (OpenLaw.row PySem.Challenge.rw_tornshelf_k32_pieces_at_places).prog [56]) (H := K32.zHk) (ob := K32.zHob) (M := 20000) (loose := K32.zHl) (d := HandSHeadRun.topDef (OpenLaw.row PySem.Challenge.rw_tornshelf_k32_pieces_at_places).prog 56) (kwd := []) K32.zHob_eq
    (by kernel_rfl) (fun s => by kernel_rfl) K32.zHrun (by kernel_rfl) (by kernel_rfl) (by kernel_rfl) (by rfl) (by first | assumption | decide +kernel) (by decide +kernel) ⟨rfl, rfl, rfl, rfl, rfl, by decide +kernel⟩ ?hw ?hc
  case hw => w_witness2
  case hc =>
    refine L2.walk_ofE (l := PySem.Challenge.rw_tornshelf_k32_pieces_at_places) (n := 63) (k := 10) (x := "_law_script") (CX := L2.CX0) rfl (by decide) (by kernel_rfl) ⟨rfl, by decide, by decide⟩ ?F (fun _ _ _ _ z => z)
    intro w mg fa h Y G hmg0
    obtain ⟨K, KX, c⟩ := Y
    have hmg : mg ("law" : PySem.Str) = some (.ref fa) := by
      have e : (HandSHeadRun.topDef (OpenLaw.row PySem.Challenge.rw_tornshelf_k32_pieces_at_places).prog 56).name = ("law" : PySem.Str) := by kernel_rfl
      rw [← e]
      exact hmg0
    obtain ⟨fd, hb, hF⟩ := K32.zHfacts hlaw (l := PySem.Challenge.rw_tornshelf_k32_pieces_at_places) (w := w) KX G hmg c
    exact ⟨K, fd, K32.spLaw K, KX, hb, fun H a ns hl hO hS => ⟨a, ns, rfl, hS, hl, Z.only_nd hO, fun _ => rfl⟩, hF⟩
namespace K32
open PySem L2 Z Y
local macro_rules | `(tactic| walk_at "sd") => `(tactic| first
  | omega | assumption | (show (_ : Nat) ≤ 16777216; simp; done) | (show (_ : Nat) ≤ 16777216; simp; omega) | (show (_ : Nat) < 16777216; simp; done) | (show (_ : Nat) < 16777216; simp; omega) | decide | exact Or.inr ⟨by omega, by omega⟩ | exact Or.inl ⟨by omega, by omega⟩ | exact ⟨by omega, by omega⟩ | exact ⟨by omega, by omega, by omega⟩ | exact ⟨by omega, by omega, by omega, by omega⟩ | exact ⟨by omega, by omega, by decide⟩)
local macro_rules | `(tactic| walk_at "ds") => `(tactic| dsimp only [List.set, setC, wipeS, wipeE, Y.rest, kp, Cn.toD])
local macro_rules | `(tactic| walk_at "f0") => `(tactic| (refine Y.f_fn rfl ?_; simp only [List.map_cons, List.map_nil, List.length_cons, List.length_nil, List.replicate, Nat.reduceSub, Nat.reduceAdd, List.cons_append, List.nil_append]))
local macro_rules | `(tactic| walk_at "fx") => `(tactic| (refine Y.f_fnX rfl ?_; simp only [List.map_cons, List.map_nil, List.length_cons, List.length_nil, List.replicate, Nat.reduceSub, Nat.reduceAdd, List.cons_append, List.nil_append]))
local macro_rules | `(tactic| walk_at "f00") => `(tactic| (refine Y.f_fn0 rfl ?_; simp only [List.map_cons, List.map_nil, List.length_cons, List.length_nil, List.replicate, Nat.reduceSub, Nat.reduceAdd, List.cons_append, List.nil_append]))
local macro_rules | `(tactic| walk_at "wx") => `(tactic| ((with_reducible show _ ≤ sizeLine ∧ _); refine ⟨by walk_at "sd", ?_⟩))
local macro_rules | `(tactic| walk_at "wx") => `(tactic| ((with_reducible show _ ∧ Y.Wo _ _ _); refine ⟨by walk_at "sd", ?_⟩))
local macro_rules | `(tactic| walk_at "wx") => `(tactic| ((with_reducible show ∃ c, AI.new _ = AI.new c ∧ _); refine ⟨_, rfl, ?_⟩; try (walk_at "ds")))
local macro_rules | `(tactic| walk_at "wx") => `(tactic| ((with_reducible show ∃ x, AI.val (D.str _) = AI.val (D.str x) ∧ _); refine ⟨_, rfl, ?_⟩; try dsimp only []))
local macro_rules | `(tactic| walk_at "wx") => `(tactic| ((with_reducible show ∃ l, Y.tupOf _ = some l ∧ _); refine ⟨_, rfl, ?_⟩; try (dsimp only [])))
local macro_rules | `(tactic| walk_at "wx") => `(tactic| ((with_reducible show ∃ l, Y.viewL _ _ = some l ∧ _); first | refine ⟨_, rfl, ?_⟩ | refine ⟨_, Y.viewL_cid (by assumption), ?_⟩))
local macro_rules | `(tactic| walk_at "wx") => `(tactic| ((with_reducible show ∃ d' l', [_] = [d'] ∧ Y.listOf _ d' = some l' ∧ _); refine ⟨_, _, rfl, rfl, ?_⟩; dsimp only [ckOf]))
local macro_rules | `(tactic| walk_at "wx") => `(tactic| with_reducible refine Y.w_wzI ?_)
local macro_rules | `(tactic| walk_at "wx") => `(tactic| ((with_reducible show ∃ l', Y.listOf _ _ = some l' ∧ _); refine ⟨_, rfl, ?_⟩; dsimp only [ckOf]))
local macro_rules | `(tactic| walk_at "wx") => `(tactic| ((with_reducible refine Y.w_rng2I ?_ ?_); (focus (· walk_at "sd"))))
local macro_rules | `(tactic| walk_at "wx") => `(tactic| ((with_reducible show ∃ w x, [_, _] = [w, x] ∧ _); refine ⟨_, _, rfl, ?_⟩; try (walk_at "ds")))
local macro_rules | `(tactic| walk_at "wx") => `(tactic| ((with_reducible refine Y.noid_and ?_ ?_); (focus (· first | rfl | (simp only [D.noIdL, D.noId, Y.noIdL_ints, Bool.and_self, Bool.and_true, Bool.true_and]; done)))))
local macro_rules | `(tactic| walk_at "wx") => `(tactic| ((with_reducible show (∃ l, Y.viewD _ _ = some l) ∧ _); refine ⟨⟨_, rfl⟩, ?_⟩))
local macro_rules | `(tactic| walk_at "wx") => `(tactic| ((with_reducible show ∃ l, AI.new (.dK _) = AI.new (.dK l) ∧ _); refine ⟨_, rfl, ?_⟩))
local macro_rules | `(tactic| walk_at "wx") => `(tactic| ((with_reducible refine Y.w_lr1I ?_ ?_ ?_); (focus (· walk_at "sd")); (focus (· walk_at "sd"))))
local macro_rules | `(tactic| walk_at "wx") => `(tactic| ((with_reducible refine Z.z_ifnN ?_ ?_); (focus (· omega))))
local macro_rules | `(tactic| walk_at "wx") => `(tactic| with_reducible refine Z.z_ifnR ?_)
local macro_rules | `(tactic| walk_at "wx") => `(tactic| with_reducible refine Y.w_blB ?_)
local macro_rules | `(tactic| walk_at "wx") => `(tactic| with_reducible refine Y.w_truI ?_)
local macro_rules | `(tactic| walk_at "wx") => `(tactic| ((with_reducible refine Z.z_ifnY ?_ ?_); (focus (· omega))))
local macro_rules | `(tactic| walk_at "wx") => `(tactic| ((with_reducible show if (!(Y.D.isN _)) = true then _ else _); first | refine Y.z_b1 rfl ?_ | refine Y.z_b0 rfl ?_))
local macro_rules | `(tactic| walk_at "wx") => `(tactic| ((with_reducible show if Y.D.isN _ = true then _ else _); first | refine Y.z_b1 rfl ?_ | refine Y.z_b0 rfl ?_))
local macro_rules | `(tactic| walk_at "wx") => `(tactic| with_reducible refine Z.z_inF ?_)
local macro_rules | `(tactic| walk_at "wx") => `(tactic| ((with_reducible refine Y.w_rng1I ?_ ?_); (focus (· walk_at "sd"))))
local macro_rules | `(tactic| walk_at "wx") => `(tactic| with_reducible refine Z.z_ifR ?_)
local macro_rules | `(tactic| walk_at "wx") => `(tactic| with_reducible refine Z.z_inT ?_)
local macro_rules | `(tactic| walk_at "wx") => `(tactic| with_reducible refine Y.w_intI ?_)
local macro_rules | `(tactic| walk_at "wx") => `(tactic| ((with_reducible refine Z.z_ifY ?_ ?_); (focus (· omega))))
local macro_rules | `(tactic| walk_at "wx") => `(tactic| ((with_reducible show Y.So _ (Y.tgL _ _ _ _)); refine Y.so_set rfl ?_; walk_at "ds"))
local macro_rules | `(tactic| walk_at "wx") => `(tactic| ((with_reducible show Y.So _ (Y.tgT _ _ _ _)); refine Y.so_set rfl ?_; walk_at "ds"))
local macro_rules | `(tactic| walk_at "wx") => `(tactic| with_reducible refine Y.w_truB ?_)
local macro_rules | `(tactic| walk_at "wx") => `(tactic| ((with_reducible show Y.So _ (Y.tgN _ _ _)); refine Y.so_some ?_; walk_at "ds"))
local macro_rules | `(tactic| walk_at "wx") => `(tactic| with_reducible refine Z.z_iT ?_)
local macro_rules | `(tactic| walk_at "wx") => `(tactic| with_reducible refine Z.z_iF ?_)
local macro_rules | `(tactic| walk_at "wx") => `(tactic| ((with_reducible show if decide ((Str.ofString _) = Str.ofString _) = true then _ else _); first | refine Z.z_ifY (by decide +kernel) ?_ | refine Z.z_ifN (by decide +kernel) ?_))
local macro_rules | `(tactic| walk_at "wx") => `(tactic| ((with_reducible refine Z.z_ifN ?_ ?_); (focus (· omega))))
local macro_rules | `(tactic| walk_at "wx") => `(tactic| ((with_reducible show ∃ k c fs, Y.objAt _ _ = some (k, c, fs) ∧ _ ∧ _); first | refine ⟨_, _, _, rfl, ⟨rfl, by first | decide | simp⟩, ?_⟩ | refine ⟨_, _, _, Y.objAt_of (by assumption), ⟨rfl, by first | decide | simp⟩, ?_⟩))
local macro_rules | `(tactic| walk_at "wx") => `(tactic| ((with_reducible show ∃ k fs, Y.objAt _ _ = some (k, _, fs) ∧ _ ∧ _); first | refine ⟨_, _, rfl, rfl, ?_⟩ | refine ⟨_, _, Y.objAt_of (by assumption), rfl, ?_⟩))
local macro_rules | `(tactic| walk_at "wx") => `(tactic| ((with_reducible show ∃ k c fs d, Y.objAt _ _ = some (k, c, fs) ∧ _ ∧ _ ∧ _); first | refine ⟨_, _, _, _, rfl, rfl, rfl, ?_⟩ | refine ⟨_, _, _, _, Y.objAt_of (by assumption), rfl, rfl, ?_⟩))
local macro_rules | `(tactic| walk_at "wx") => `(tactic| with_reducible refine Y.w_blV ?_)
local macro_rules | `(tactic| walk_at "ws") => `(tactic| ((with_reducible show Y.Ws _ _ (Y.mAug _ _ _ _)); refine Y.w_aug rfl ?_))
local macro_rules | `(tactic| walk_at "ws") => `(tactic| with_reducible refine Y.w_augS ?_)
local macro_rules | `(tactic| walk_at "ws") => `(tactic| ((with_reducible show Y.Ws _ _ (Y.mForD _ _ _ _ _)); refine Y.w_forD rfl ?_))
local macro_rules | `(tactic| walk_at "ws") => `(tactic| with_reducible refine Y.w_tryM ?_)
local macro_rules | `(tactic| walk_at "ws") => `(tactic| with_reducible refine Y.w_tryA ?_)
local macro_rules | `(tactic| walk_at "ws") => `(tactic| with_reducible refine Y.w_raiseA ?_)
local macro_rules | `(tactic| walk_at "ws") => `(tactic| with_reducible refine Y.w_raise ?_)
local macro_rules | `(tactic| walk_at "ws") => `(tactic| with_reducible refine Y.w_fldA ?_)
local macro_rules | `(tactic| walk_at "ws") => `(tactic| with_reducible refine Y.w_asgTB ?_)
local macro_rules | `(tactic| walk_at "ws") => `(tactic| with_reducible refine Y.w_par ?_)
local macro_rules | `(tactic| walk_at "ws") => `(tactic| with_reducible refine Y.w_asgK ?_)
local macro_rules | `(tactic| walk_at "ws") => `(tactic| with_reducible refine Y.w_retN ?_)
local macro_rules | `(tactic| walk_at "ws") => `(tactic| with_reducible refine Y.w_retN' ?_)
local macro_rules | `(tactic| walk_at "ws") => `(tactic| ((with_reducible show Y.Ws _ _ (Y.asg _ (.slot _) _)); refine Y.w_asgI rfl ?_; walk_at "ds"))
local macro_rules | `(tactic| walk_at "ws") => `(tactic| with_reducible refine Y.w_asgS ?_)
local macro_rules | `(tactic| walk_at "ws") => `(tactic| with_reducible refine Y.w_asgST ?_)
local macro_rules | `(tactic| walk_at "ws") => `(tactic| with_reducible refine Y.w_asgT ?_)
local macro_rules | `(tactic| walk_at "ws") => `(tactic| ((with_reducible show Y.Ws _ _ (Y.ret (.slot _) _)); refine Y.w_retS rfl ?_; walk_at "ds"))
local macro_rules | `(tactic| walk_at "ws") => `(tactic| (with_reducible refine Y.w_asgN ?_; walk_at "ds"))
local macro_rules | `(tactic| walk_at "ws") => `(tactic| with_reducible refine Y.w_for ?_)
local macro_rules | `(tactic| walk_at "ws") => `(tactic| with_reducible refine Y.w_fldS ?_)
local macro_rules | `(tactic| walk_at "ws") => `(tactic| with_reducible refine Y.w_drop ?_)
local macro_rules | `(tactic| walk_at "ws") => `(tactic| (with_reducible refine Y.w_asgV ?_; walk_at "ds"))
local macro_rules | `(tactic| walk_at "ws") => `(tactic| with_reducible refine Y.w_asg ?_)
local macro_rules | `(tactic| walk_at "ws") => `(tactic| with_reducible refine Y.w_retV ?_)
local macro_rules | `(tactic| walk_at "ws") => `(tactic| with_reducible refine Y.w_ret ?_)
local macro_rules | `(tactic| walk_at "ws") => `(tactic| with_reducible refine Y.w_next ?_)
local macro_rules | `(tactic| walk_at "ws") => `(tactic| with_reducible refine Y.w_ifS ?_)
local macro_rules | `(tactic| walk_at "ws") => `(tactic| with_reducible refine Y.w_seq ?_)
local macro_rules | `(tactic| walk_at "wo") => `(tactic| with_reducible refine Y.w_isnB ?_)
local macro_rules | `(tactic| walk_at "wo") => `(tactic| with_reducible refine Y.w_isB ?_)
local macro_rules | `(tactic| walk_at "wo") => `(tactic| with_reducible refine Y.w_ws ?_)
local macro_rules | `(tactic| walk_at "wo") => `(tactic| with_reducible refine Y.w_wt ?_)
local macro_rules | `(tactic| walk_at "wo") => `(tactic| with_reducible refine Y.w_wz ?_)
local macro_rules | `(tactic| walk_at "wo") => `(tactic| with_reducible refine Y.w_rng2 ?_)
local macro_rules | `(tactic| walk_at "wo") => `(tactic| with_reducible refine Y.w_callC ?_)
local macro_rules | `(tactic| walk_at "wo") => `(tactic| with_reducible refine Y.w_callB ?_)
local macro_rules | `(tactic| walk_at "wo") => `(tactic| ((with_reducible show Y.Wo _ _ (Y.mIsX _ _ _)); refine Y.w_isX rfl rfl ?_))
local macro_rules | `(tactic| walk_at "wo") => `(tactic| ((with_reducible show Y.Wo _ _ (Y.mXf _ _ _ _)); refine Y.w_xf rfl rfl rfl ?_))
local macro_rules | `(tactic| walk_at "wo") => `(tactic| with_reducible refine Y.w_callPS ?_)
local macro_rules | `(tactic| walk_at "wo") => `(tactic| with_reducible refine Y.w_callTS ?_)
local macro_rules | `(tactic| walk_at "wo") => `(tactic| with_reducible refine Y.w_callT ?_)
local macro_rules | `(tactic| walk_at "wo") => `(tactic| with_reducible refine Y.w_callP ?_)
local macro_rules | `(tactic| walk_at "wo") => `(tactic| with_reducible refine Y.w_toKS ?_)
local macro_rules | `(tactic| walk_at "wo") => `(tactic| with_reducible refine Y.w_wn ?_)
local macro_rules | `(tactic| walk_at "wo") => `(tactic| with_reducible refine Y.w_get2 ?_)
local macro_rules | `(tactic| walk_at "wo") => `(tactic| with_reducible refine Y.w_minVals ?_)
local macro_rules | `(tactic| walk_at "wo") => `(tactic| with_reducible refine Y.w_sortVals ?_)
local macro_rules | `(tactic| walk_at "wo") => `(tactic| with_reducible refine Y.w_get1 ?_)
local macro_rules | `(tactic| walk_at "wo") => `(tactic| with_reducible refine Y.w_lenTups ?_)
local macro_rules | `(tactic| walk_at "wo") => `(tactic| with_reducible refine Y.w_setT ?_)
local macro_rules | `(tactic| walk_at "wo") => `(tactic| with_reducible refine Y.w_setD ?_)
local macro_rules | `(tactic| walk_at "wo") => `(tactic| with_reducible refine Y.w_kvNil ?_)
local macro_rules | `(tactic| walk_at "wo") => `(tactic| with_reducible refine Y.w_kvCons ?_)
local macro_rules | `(tactic| walk_at "wo") => `(tactic| with_reducible refine Y.w_disp ?_)
local macro_rules | `(tactic| walk_at "wo") => `(tactic| with_reducible refine Y.w_lcG ?_)
local macro_rules | `(tactic| walk_at "wo") => `(tactic| with_reducible refine Y.w_dnew ?_)
local macro_rules | `(tactic| walk_at "wo") => `(tactic| with_reducible refine Y.w_pop ?_)
local macro_rules | `(tactic| walk_at "wo") => `(tactic| ((with_reducible show Y.Wo _ _ (Y.mLcO _ _ _ _ _ _)); refine Y.w_lcO rfl ?_; walk_at "ds"))
local macro_rules | `(tactic| walk_at "wo") => `(tactic| ((with_reducible show Y.Wo _ _ (Y.mLcD _ _ _ _ _ _ _)); first | refine Y.w_lcD1 rfl ?_ | (refine Y.w_lcD2 rfl ?_; walk_at "ds")))
local macro_rules | `(tactic| walk_at "wo") => `(tactic| with_reducible refine Y.w_rng3 ?_)
local macro_rules | `(tactic| walk_at "wo") => `(tactic| with_reducible refine Y.w_sidx ?_)
local macro_rules | `(tactic| walk_at "wo") => `(tactic| with_reducible refine Y.w_abs ?_)
local macro_rules | `(tactic| walk_at "wo") => `(tactic| ((with_reducible refine Y.w_mulS ?_ ?_); (focus (· walk_at "sd"))))
local macro_rules | `(tactic| walk_at "wo") => `(tactic| with_reducible refine Y.w_sjoin ?_)
local macro_rules | `(tactic| walk_at "wo") => `(tactic| with_reducible refine Y.w_intB ?_)
local macro_rules | `(tactic| walk_at "wo") => `(tactic| with_reducible refine Y.w_mI ?_)
local macro_rules | `(tactic| walk_at "wo") => `(tactic| with_reducible refine Y.w_ifE ?_)
local macro_rules | `(tactic| walk_at "wo") => `(tactic| ((with_reducible show Y.Wo _ _ (Y.fNe _ (.val (.str _)) (.val (.str _)))); refine Y.w_neS (by decide +kernel) (by decide +kernel) ?_))
local macro_rules | `(tactic| walk_at "wo") => `(tactic| with_reducible refine Y.w_wzs ?_)
local macro_rules | `(tactic| walk_at "wo") => `(tactic| with_reducible refine Y.w_makeS ?_)
local macro_rules | `(tactic| walk_at "wo") => `(tactic| with_reducible refine Y.w_get2T ?_)
local macro_rules | `(tactic| walk_at "wo") => `(tactic| with_reducible refine Y.w_tidx ?_)
local macro_rules | `(tactic| walk_at "wo") => `(tactic| with_reducible refine Y.w_I2 ?_)
local macro_rules | `(tactic| walk_at "wo") => `(tactic| with_reducible refine Y.w_we ?_)
local macro_rules | `(tactic| walk_at "wo") => `(tactic| with_reducible refine Y.w_call ?_)
local macro_rules | `(tactic| walk_at "wo") => `(tactic| with_reducible refine Y.w_get1T ?_)
local macro_rules | `(tactic| walk_at "wo") => `(tactic| with_reducible refine Y.w_dnewT ?_)
local macro_rules | `(tactic| walk_at "wo") => `(tactic| with_reducible refine Y.w_lr1 ?_)
local macro_rules | `(tactic| walk_at "wo") => `(tactic| ((with_reducible show Y.Wo _ _ (Y.fList _ [_])); refine Y.w_list rfl ?_))
local macro_rules | `(tactic| walk_at "wo") => `(tactic| with_reducible refine Y.w_neg ?_)
local macro_rules | `(tactic| walk_at "wo") => `(tactic| with_reducible refine Y.w_un ?_)
local macro_rules | `(tactic| walk_at "wo") => `(tactic| ((with_reducible show Y.Wo _ _ (Y.toV (.slot _) _)); refine Y.w_toVS rfl ?_; walk_at "ds"))
local macro_rules | `(tactic| walk_at "wo") => `(tactic| with_reducible refine Y.w_notV ?_)
local macro_rules | `(tactic| walk_at "wo") => `(tactic| with_reducible refine Y.w_lr2 ?_)
local macro_rules | `(tactic| walk_at "wo") => `(tactic| with_reducible refine Y.w_orV ?_)
local macro_rules | `(tactic| walk_at "wo") => `(tactic| with_reducible refine Y.w_neI ?_)
local macro_rules | `(tactic| walk_at "wo") => `(tactic| ((with_reducible show Y.Wo _ _ (Y.fIsn _ _ (.val .non))); refine Y.w_isnN rfl ?_))
local macro_rules | `(tactic| walk_at "wo") => `(tactic| ((with_reducible show Y.Wo _ _ (Y.fSlT _ _ _ _)); refine Y.w_slTu rfl (by first | decide | (simp only [List.length_cons, List.length_nil]; decide)) ?_))
local macro_rules | `(tactic| walk_at "wo") => `(tactic| with_reducible refine Y.w_slTp ?_)
local macro_rules | `(tactic| walk_at "wo") => `(tactic| with_reducible refine Y.w_makeN ?_)
local macro_rules | `(tactic| walk_at "wo") => `(tactic| ((with_reducible show Y.Wo _ _ (Y.fSl _ _ _ _)); refine Y.w_slL rfl rfl ?_))
local macro_rules | `(tactic| walk_at "wo") => `(tactic| with_reducible refine Y.w_sl ?_)
local macro_rules | `(tactic| walk_at "wo") => `(tactic| with_reducible refine Y.w_chain ?_)
local macro_rules | `(tactic| walk_at "wo") => `(tactic| with_reducible refine Y.w_andV ?_)
local macro_rules | `(tactic| walk_at "wo") => `(tactic| ((with_reducible show Y.Wo _ _ (Y.fIs _ _ (.val .non))); refine Y.w_isN rfl ?_))
local macro_rules | `(tactic| walk_at "wo") => `(tactic| with_reducible refine Y.w_vConsK ?_)
local macro_rules | `(tactic| walk_at "wo") => `(tactic| with_reducible refine Y.w_methS ?_)
local macro_rules | `(tactic| walk_at "wo") => `(tactic| (with_reducible refine Y.w_toVN ?_; dsimp only [Cn.toD]))
local macro_rules | `(tactic| walk_at "wo") => `(tactic| with_reducible refine Y.w_lc ?_)
local macro_rules | `(tactic| walk_at "wo") => `(tactic| with_reducible refine Y.w_rng1 ?_)
local macro_rules | `(tactic| walk_at "wo") => `(tactic| with_reducible refine Y.w_oSm ?_)
local macro_rules | `(tactic| walk_at "wo") => `(tactic| with_reducible refine Y.w_oNo ?_)
local macro_rules | `(tactic| walk_at "wo") => `(tactic| with_reducible refine Y.w_or ?_)
local macro_rules | `(tactic| walk_at "wo") => `(tactic| ((with_reducible refine Y.w_mulI ?_ ?_); (focus (· walk_at "sd"))))
local macro_rules | `(tactic| walk_at "wo") => `(tactic| with_reducible refine Y.w_callN ?_)
local macro_rules | `(tactic| walk_at "wo") => `(tactic| with_reducible refine Y.w_wl ?_)
local macro_rules | `(tactic| walk_at "wo") => `(tactic| with_reducible refine Y.w_not ?_)
local macro_rules | `(tactic| walk_at "wo") => `(tactic| with_reducible refine Y.w_tru ?_)
local macro_rules | `(tactic| walk_at "wo") => `(tactic| with_reducible refine Y.w_bm ?_)
local macro_rules | `(tactic| walk_at "wo") => `(tactic| ((with_reducible refine Y.w_I ?_ ?_); (focus (· walk_at "sd"))))
local macro_rules | `(tactic| walk_at "wo") => `(tactic| ((with_reducible show Y.Wo _ _ (Y.fLen _ [_])); first | refine Y.w_len rfl rfl ?_ | refine Y.w_lenC (by assumption) ?_))
local macro_rules | `(tactic| walk_at "wo") => `(tactic| (with_reducible refine Y.w_toKN ?_; try (dsimp only [List.length_cons, List.length_nil, List.cons_append, List.nil_append, Nat.reduceAdd])))
local macro_rules | `(tactic| walk_at "wo") => `(tactic| with_reducible refine Y.w_eqI ?_)
local macro_rules | `(tactic| walk_at "wo") => `(tactic| with_reducible refine Y.w_addI ?_)
local macro_rules | `(tactic| walk_at "wo") => `(tactic| with_reducible refine Y.w_tup ?_)
local macro_rules | `(tactic| walk_at "wo") => `(tactic| with_reducible refine Y.w_and ?_)
local macro_rules | `(tactic| walk_at "wo") => `(tactic| with_reducible refine Y.w_cb ?_)
local macro_rules | `(tactic| walk_at "wo") => `(tactic| with_reducible refine Y.w_methN ?_)
local macro_rules | `(tactic| walk_at "wo") => `(tactic| with_reducible refine Y.w_lst ?_)
local macro_rules | `(tactic| walk_at "wo") => `(tactic| ((with_reducible show Y.Wo _ _ (Y.fEq _ (.val (.str _)) (.val (.str _)))); refine Y.w_eqS (by decide +kernel) (by decide +kernel) ?_))
local macro_rules | `(tactic| walk_at "wo") => `(tactic| with_reducible refine Y.w_aNil ?_)
local macro_rules | `(tactic| walk_at "wo") => `(tactic| with_reducible refine Y.w_aCons ?_)
local macro_rules | `(tactic| walk_at "wo") => `(tactic| with_reducible refine Y.w_toKV ?_)
local macro_rules | `(tactic| walk_at "wo") => `(tactic| with_reducible refine Y.w_I0 ?_)
local macro_rules | `(tactic| walk_at "wo") => `(tactic| with_reducible refine Y.w_K ?_)
local macro_rules | `(tactic| walk_at "wo") => `(tactic| with_reducible refine Y.w_vNil ?_)
local macro_rules | `(tactic| walk_at "wo") => `(tactic| with_reducible refine Y.w_vCons ?_)
local macro_rules | `(tactic| walk_at "wo") => `(tactic| with_reducible refine Y.w_bl ?_)
local macro_rules | `(tactic| walk_at "wo") => `(tactic| with_reducible refine Y.w_fld ?_)
local macro_rules | `(tactic| walk_at "wo") => `(tactic| with_reducible refine Y.w_toVV ?_)
local macro_rules | `(tactic| walk_at "wo") => `(tactic| with_reducible refine Y.w_V ?_)
local macro_rules | `(tactic| walk_at "wo") => `(tactic| with_reducible refine Y.w_op ?_)
local macro_rules | `(tactic| walk_at "wo") => `(tactic| with_reducible refine Y.w_c ?_)
local macro_rules | `(tactic| walk_at "wo") => `(tactic| ((with_reducible show Y.Wo _ _ (Y.mName _ _)); first | refine Y.w_nameF rfl ?_ | refine Y.w_nameO rfl ?_))
local macro_rules | `(tactic| walk_at "w1") => `(tactic| walk_at "wx")
local macro_rules | `(tactic| walk_at "w1") => `(tactic| ((with_reducible show Y.Ws _ _ _); walk_at "ws"))
local macro_rules | `(tactic| walk_at "w1") => `(tactic| ((with_reducible show Y.Wo _ _ _); walk_at "wo"))
local macro_rules | `(tactic| walk_at "w") => `(tactic| repeat (walk_at "w1"))
local macro_rules | `(tactic| walk_at "dr") => `(tactic| (refine fo_use (next_ok (by assumption) (by first | decide | omega) (by first | decide | omega)) ?_; rintro _ _ ⟨_, rfl, _, _, _⟩; have := Kpt.dr (by assumption); walk_at "w"))
local macro_rules | `(tactic| walk_at "wi") => `(tactic| repeat ((fail_if_success (with_reducible show Y.Ws _ _ (Y.mSeq (Y.mIfS _ _ _) _ _))); walk_at "w1"))
local macro_rules | `(tactic| walk_at "wr") => `(tactic| repeat ((fail_if_success (with_reducible first | refine Y.w_rng1I ?_ ?_ | refine Y.w_rng2I ?_ ?_)); walk_at "w1"))
@[irreducible] noncomputable def b_l_draw : Ms :=
  (mRet (mLst (vCons (mOp fMul (mOp (fI CDiv fun i j => .int (i / j)) (mName 0) (mC (.int 2))) (mOp (fI0 fun i j => .int (i - j)) (mC (.int 1)) (mOp (fI (fun _ j => 0 < j) fun i j => .int (i % j)) (mName 0) (mC (.int 2))))) (vCons (mName 0) vNil))))
noncomputable def m_l_draw : Mf := mFn 1 1 b_l_draw
theorem ok_l_draw {P : Program} {w : World} {K : PySem.W.Frag} {mg : Str → Option Value} {base : Heap} (T : Tx K mg) : FnOk P w K mg base CX0 1 T.a_l_draw T.d_l_draw ["_law_cell"] (spM K (ctT T) m_l_draw) :=
  T.F_l_draw.ok sc_l_draw (fun vs H Q E h => sp_len h) (fun cdv A outer s H vs Q E hr h => ⟨_, (pss_one (ps_ret (pe_lst (pa_cons (pe_op op_mulZ (pe_op op_fdiv (pv 0) pe_int) (pe_op op_sub pe_int (pe_op op_mod (pv 0) pe_int))) (pa_cons (pv 0) pa_nil))))),
    fn_run (np := 1) (N := ["_law_cell"]) (body := b_l_draw) (by unfold b_l_draw; exact (sv_ret (ei_lst (ev_cons (ei_op j_mul (ei_op (j_I fun _ _ => cr_int) ei_var (ei_c cr_int)) (ei_op (j_I0 fun _ _ => cr_int) (ei_c cr_int) (ei_op (j_I fun _ _ => cr_int) ei_var (ei_c cr_int)))) (ev_cons ei_var ev_nil))))) h⟩)
@[irreducible] noncomputable def b_l_sum : Ms :=
  (mSeq (mAsg 1 (mC (.int 65535)))
  (mSeq (mFor (mWL (mName 0)) (tgN 2) (mSeq (mAsg 1 (mOp (fI0 fun i j => .int (Builtin.bitXor i j)) (mName 1) (mOp (fI CShl fun i j => .int (i * 2 ^ j.toNat)) (mName 2) (mC (.int 8)))))
  (mFor (mRng1 (aCons (mC (.int 8)) aNil)) (tgN 3) (mSeq (mAsg 1 (mOp (fI CShl fun i j => .int (i * 2 ^ j.toNat)) (mName 1) (mC (.int 1))))
  (mIfS (mBl (mOp (fI0 fun i j => .bl (decide (j < i))) (mName 1) (mC (.int 65535)))) (mAsg 1 (mOp (fI0 fun i j => .int (Builtin.bitAnd i j)) (mOp (fI0 fun i j => .int (Builtin.bitXor i j)) (mName 1) (mC (.int 4129))) (mC (.int 65535)))) mNext)))))
  (mRet (mLst (vCons (mOp (fI CDiv fun i j => .int (i / j)) (mName 1) (mC (.int 256))) (vCons (mOp (fI (fun _ j => 0 < j) fun i j => .int (i % j)) (mName 1) (mC (.int 256))) vNil))))))
noncomputable def m_l_sum : Mf := mFn 1 4 b_l_sum
theorem ok_l_sum {P : Program} {w : World} {K : PySem.W.Frag} {mg : Str → Option Value} {base : Heap} (T : Tx K mg) : FnOk P w K mg base CX0 1 T.a_l_sum T.d_l_sum ["_law_row"] (spM K (ctT T) m_l_sum) :=
  T.F_l_sum.ok sc_l_sum (fun vs H Q E h => sp_len h) (fun cdv A outer s H vs Q E hr h => ⟨_, (pss_cons (ps_set (i := 1) sc_l_sum.nd rfl (by first | exact Or.inl rfl | exact Or.inr rfl) pe_int)
      (pss_cons (ps_for PassesOwn.never rfl (pi_listZ (K := K) rfl (pv 0)) (pg_name (i := 2) sc_l_sum.nd rfl (by first | exact Or.inl rfl | exact Or.inr rfl)) (pss_cons (ps_set (i := 1) sc_l_sum.nd rfl (by first | exact Or.inl rfl | exact Or.inr rfl) (pe_op op_xor (pv 1) (pe_op op_shlW (pv 2) pe_int)))
      (pss_one (ps_for PassesOwn.never rfl (pi_range1 rfl T.z_range (pa_cons pe_int pa_nil)) (pg_name (i := 3) sc_l_sum.nd rfl (by first | exact Or.inl rfl | exact Or.inr rfl)) (pss_cons (ps_set (i := 1) sc_l_sum.nd rfl (by first | exact Or.inl rfl | exact Or.inr rfl) (pe_op op_shlW (pv 1) pe_int))
      (pss_one (ps_if (pt_cmpR op_gt (pv 1) pe_int (nomark _)) (pss_one (ps_set (i := 1) sc_l_sum.nd rfl (by first | exact Or.inl rfl | exact Or.inr rfl) (pe_op op_and (pe_op op_xor (pv 1) pe_int) pe_int))) pss_nil)))))))
      (pss_one (ps_ret (pe_lst (pa_cons (pe_op op_fdiv (pv 1) pe_int) (pa_cons (pe_op op_mod (pv 1) pe_int) pa_nil))))))),
    fn_run (np := 1) (N := ["_law_row", "_law_found", "_law_byte", "_law_k"]) (body := b_l_sum) (by unfold b_l_sum; exact (sv_seq (sv_asg (ei_c cr_int))
      (sv_seq (sv_for (jw_list ei_var) sg_name (sv_seq (sv_asg (ei_op (j_I0 fun _ _ => cr_int) ei_var (ei_op (j_I fun _ _ => cr_int) ei_var (ei_c cr_int))))
      (sv_for (jw_rng1 (ea_cons (ei_c cr_int) ea_nil)) sg_name (sv_seq (sv_asg (ei_op (j_I fun _ _ => cr_int) ei_var (ei_c cr_int)))
      (sv_if (et_tst (ei_op (j_I0 fun _ _ => cr_bl) ei_var (ei_c cr_int))) (sv_asg (ei_op (j_I0 fun _ _ => cr_int) (ei_op (j_I0 fun _ _ => cr_int) ei_var (ei_c cr_int)) (ei_c cr_int))) sv_next)))))
      (sv_ret (ei_lst (ev_cons (ei_op (j_I fun _ _ => cr_int) ei_var (ei_c cr_int)) (ev_cons (ei_op (j_I fun _ _ => cr_int) ei_var (ei_c cr_int)) ev_nil))))))) h⟩)
@[irreducible] noncomputable def b_l_bits : Ms :=
  (mSeq (mAsg 2 (mC (.str (Str.ofString ""))))
  (mSeq (mFor (mRng1 (aCons (mName 1) aNil)) (tgN 3) (mAsg 2 (mOp fAdd (mCB fStr (aCons (mOp (fI0 fun i j => .int (Builtin.bitAnd i j)) (mOp (fI (fun _ j => 0 ≤ j) fun i j => .int (i / 2 ^ j.toNat)) (mName 0) (mName 3)) (mC (.int 1))) aNil)) (mName 2))))
  (mRet (mName 2))))
noncomputable def m_l_bits : Mf := mFn 2 4 b_l_bits
theorem ok_l_bits {P : Program} {w : World} {K : PySem.W.Frag} {mg : Str → Option Value} {base : Heap} (T : Tx K mg) : FnOk P w K mg base CX0 1 T.a_l_bits T.d_l_bits ["_law_number", "_law_many"] (spM K (ctT T) m_l_bits) :=
  T.F_l_bits.ok sc_l_bits (fun vs H Q E h => sp_len h) (fun cdv A outer s H vs Q E hr h => ⟨_, (pss_cons (ps_set (i := 2) sc_l_bits.nd rfl (by first | exact Or.inl rfl | exact Or.inr rfl) pe_str)
      (pss_cons (ps_for PassesOwn.never rfl (pi_range1 rfl T.z_range (pa_cons (pv 1) pa_nil)) (pg_name (i := 3) sc_l_bits.nd rfl (by first | exact Or.inl rfl | exact Or.inr rfl)) (pss_one (ps_set (i := 2) sc_l_bits.nd rfl (by first | exact Or.inl rfl | exact Or.inr rfl) (pe_op (op_addZ (K := K) rfl) (pe_callTy (call_strY) (by rfl) T.z_str (by decide +kernel) (pa_cons (pe_op op_and (pe_op op_shr (pv 0) (pv 3)) pe_int) pa_nil)) (pv 2)))))
      (pss_one (ps_ret (pv 2))))),
    fn_run (np := 2) (N := ["_law_number", "_law_many", "_law_bits_here", "_law_k"]) (body := b_l_bits) (by unfold b_l_bits; exact (sv_seq (sv_asg (ei_c cr_str))
      (sv_seq (sv_for (jw_rng1 (ea_cons ei_var ea_nil)) sg_name (sv_asg (ei_op j_add (ei_cb jb_str (ea_cons (ei_op (j_I0 fun _ _ => cr_int) (ei_op (j_I fun _ _ => cr_int) ei_var ei_var) (ei_c cr_int)) ea_nil)) ei_var)))
      (sv_ret ei_var)))) h⟩)
@[irreducible] noncomputable def b_l_bytes : Ms :=
  (mSeq (mAsg 0 (mOp fAdd (mName 0) (mOp fMulS (mC (.str (Str.ofString "0"))) (mOp (fI (fun _ j => 0 < j) fun i j => .int (i % j)) (mOp (fI0 fun i j => .int (i - j)) (mC (.int 0)) (mCB fLen (aCons (mName 0) aNil))) (mC (.int 8))))))
  (mSeq (mAsg 1 (mLst vNil))
  (mSeq (mFor (mRng3 (aCons (mC (.int 0)) (aCons (mCB fLen (aCons (mName 0) aNil)) (aCons (mC (.int 8)) aNil)))) (tgN 2) (mSeq (mAsg 3 (mC (.int 0)))
  (mSeq (mFor (mWS (mSl (mName 0) (oSm (mName 2)) (oSm (mOp fAdd (mName 2) (mC (.int 8)))))) (tgN 4) (mAsg 3 (mOp fAdd (mOp fMul (mC (.int 2)) (mName 3)) (mCB fInt (aCons (mOp fEq (mName 4) (mC (.str (Str.ofString "1")))) aNil)))))
  (mDrop (mBM fApp (mName 1) (vCons (mName 3) vNil))))))
  (mRet (mName 1)))))
noncomputable def m_l_bytes : Mf := mFn 1 5 b_l_bytes
theorem ok_l_bytes {P : Program} {w : World} {K : PySem.W.Frag} {mg : Str → Option Value} {base : Heap} (T : Tx K mg) : FnOk P w K mg base CX0 1 T.a_l_bytes T.d_l_bytes ["_law_bits_here"] (spM K (ctT T) m_l_bytes) :=
  T.F_l_bytes.ok sc_l_bytes (fun vs H Q E h => sp_len h) (fun cdv A outer s H vs Q E hr h => ⟨_, (pss_cons (ps_set (i := 0) sc_l_bytes.nd rfl (by first | exact Or.inl rfl | exact Or.inr rfl) (pe_op (op_addZ (K := K) rfl) (pv 0) (pe_op op_mulS pe_str (pe_op op_mod (pe_op op_sub pe_int (pe_callB (call_lenY (K := K) rfl) (by rfl) T.z_len PySem.boot_len (pa_cons (pv 0) pa_nil))) pe_int))))
      (pss_cons (ps_set (i := 1) sc_l_bytes.nd rfl (by first | exact Or.inl rfl | exact Or.inr rfl) (pe_lst pa_nil))
      (pss_cons (ps_for PassesOwn.never rfl (pi_range3 rfl T.z_range (pa_cons pe_int (pa_cons (pe_callB (call_lenY (K := K) rfl) (by rfl) T.z_len PySem.boot_len (pa_cons (pv 0) pa_nil)) (pa_cons pe_int pa_nil)))) (pg_name (i := 2) sc_l_bytes.nd rfl (by first | exact Or.inl rfl | exact Or.inr rfl)) (pss_cons (ps_set (i := 3) sc_l_bytes.nd rfl (by first | exact Or.inl rfl | exact Or.inr rfl) pe_int)
      (pss_cons (ps_for PassesOwn.never rfl (pi_str (pe_slice (sl_Z (K := K) rfl) (pv 0) (po_some (pv 2)) (po_some (pe_op (op_addZ (K := K) rfl) (pv 2) pe_int)))) (pg_name (i := 4) sc_l_bytes.nd rfl (by first | exact Or.inl rfl | exact Or.inr rfl)) (pss_one (ps_set (i := 3) sc_l_bytes.nd rfl (by first | exact Or.inl rfl | exact Or.inr rfl) (pe_op (op_addZ (K := K) rfl) (pe_op op_mulZ pe_int (pv 3)) (pe_callTy (call_intY) (by rfl) T.z_int (by decide +kernel) (pa_cons (pe_cmpR (op_eqZ (K := K) rfl hr.units) (pv 4) pe_str (nomark _)) pa_nil))))))
      (pss_one (ps_expr (pe_bmZ (K := K) rfl PySem.F.plainAttrs_list PySem.F.slot_list_append PySem.F.type_list_append mt_append (pv 1) (pa_cons (pv 3) pa_nil)))))))
      (pss_one (ps_ret (pv 1)))))),
    fn_run (np := 1) (N := ["_law_bits_here", "_law_found", "_law_at", "_law_number", "_law_bit"]) (body := b_l_bytes) (by unfold b_l_bytes; exact (sv_seq (sv_asg (ei_op j_add ei_var (ei_op j_mulS (ei_c cr_str) (ei_op (j_I fun _ _ => cr_int) (ei_op (j_I0 fun _ _ => cr_int) (ei_c cr_int) (ei_cb jb_len (ea_cons ei_var ea_nil))) (ei_c cr_int)))))
      (sv_seq (sv_asg (ei_lst ev_nil))
      (sv_seq (sv_for (jw_rng3 (ea_cons (ei_c cr_int) (ea_cons (ei_cb jb_len (ea_cons ei_var ea_nil)) (ea_cons (ei_c cr_int) ea_nil)))) sg_name (sv_seq (sv_asg (ei_c cr_int))
      (sv_seq (sv_for (jw_str (ei_sl ei_var (eo_sm ei_var) (eo_sm (ei_op j_add ei_var (ei_c cr_int))))) sg_name (sv_asg (ei_op j_add (ei_op j_mul (ei_c cr_int) ei_var) (ei_cb jb_int (ea_cons (ei_op j_eq ei_var (ei_c cr_str)) ea_nil)))))
      (sv_drop (ei_bm jm_app ei_var (ev_cons ei_var ev_nil))))))
      (sv_ret ei_var))))) h⟩)
@[irreducible] noncomputable def b_l_room : Ms :=
  (mRet (mCB (fInts gSum) (aCons (mLc [1] (mWL (mName 0)) (tgN 1) (mBl (mOp (fI0 fun i j => .bl (decide (j < i))) (mName 1) (mC (.int 0)))) (mOp (fI (fun _ j => 0 ≤ j) fun i j => .int (i / 2 ^ j.toNat)) (mC (.int 32768)) (mName 1))) aNil)))
noncomputable def m_l_room : Mf := mFn 1 2 b_l_room
theorem ok_l_room {P : Program} {w : World} {K : PySem.W.Frag} {mg : Str → Option Value} {base : Heap} (T : Tx K mg) : FnOk P w K mg base CX0 1 T.a_l_room T.d_l_room ["_law_lengths_here"] (spM K (ctT T) m_l_room) :=
  T.F_l_room.ok sc_l_room (fun vs H Q E h => sp_len h) (fun cdv A outer s H vs Q E hr h => ⟨_, (pss_one (ps_ret (pe_callB (cr_sumZ (K := K) rfl rfl) (by rfl) T.z_sum (by decide +kernel) (pa_cons (pe_lc (own := [("_law_length", 1)]) rfl sc_l_room.nd (pi_listZ (K := K) rfl (pv 0)) (blkOk_by (N := ["_law_lengths_here", "_law_length"]) (sc := defScope s_l_room) (by decide +kernel)) (fun _ _ _ _ _ => (pg_name (i := 1) sc_l_room.nd rfl (by first | exact Or.inl rfl | exact Or.inr rfl))) (fun _ _ _ _ _ => (pts_one (pt_cmpR op_gt (pv 1) pe_int (nomark _)))) (fun _ _ _ _ _ => (pe_op op_shr pe_int (pv 1)))) pa_nil)))),
    fn_run (np := 1) (N := ["_law_lengths_here", "_law_length"]) (body := b_l_room) (by unfold b_l_room; exact (sv_ret (ei_cb jb_sum (ea_cons (ei_lc (ws := [1]) (jw_list ei_var) sg_name (by decide) (et_tst (ei_op (j_I0 fun _ _ => cr_bl) ei_var (ei_c cr_int))) (ei_op (j_I fun _ _ => cr_int) (ei_c cr_int) ei_var)) ea_nil)))) h⟩)
@[irreducible] noncomputable def b_l_take : Ms :=
  (mSeq (mAsg 3 (mLst vNil))
  (mSeq (mAsg 4 (mC (.int 0)))
  (mSeq (mWh (mBl (mOp (fI0 fun i j => .bl (decide (i < j))) (mCB fLen (aCons (mName 3) aNil)) (mName 2))) (mSeq (mAsg 5 (mUn fNeg (mC (.int 1))))
  (mSeq (mForD .items 1 (tgT 2 (tgCons (tgN 6) (tgCons (tgN 7) tgNil))) (mIfS (mBl (mOp fEq (mSl (mName 0) (oSm (mName 4)) (oSm (mOp fAdd (mName 4) (mCB fLen (aCons (mName 7) aNil))))) (mName 7))) (mAsg 5 (mName 6)) mNext))
  (mSeq (mIfS (mBl (mOp fEq (mName 5) (mUn fNeg (mC (.int 1))))) (mRet (mC .non)) mNext)
  (mSeq (mAsg 4 (mOp fAdd (mName 4) (mCB fLen (aCons (mOp fIxY (mName 1) (mName 5)) aNil))))
  (mSeq (mAsg 8 (mSl (mName 0) (oSm (mName 4)) (oSm (mOp fAdd (mName 4) (mOp fIxY (mLst (vCons (mC (.int 3)) (vCons (mC (.int 12)) vNil))) (mCB fInt (aCons (mOp fEq (mName 5) (mC (.int 32))) aNil)))))))
  (mSeq (mIfS (mBl (mOp (fI0 fun i j => .bl (decide (i < j))) (mCB fLen (aCons (mName 8) aNil)) (mOp fIxY (mLst (vCons (mC (.int 3)) (vCons (mC (.int 12)) vNil))) (mCB fInt (aCons (mOp fEq (mName 5) (mC (.int 32))) aNil))))) (mRet (mC .non)) mNext)
  (mSeq (mAsg 4 (mOp fAdd (mName 4) (mCB fLen (aCons (mName 8) aNil))))
  (mIfS (mBl (mOp (fI0 fun i j => .bl (decide (i < j))) (mName 5) (mC (.int 32)))) (mDrop (mBM fApp (mName 3) (vCons (mOp fAdd (mOp fMul (mC (.int 8)) (mName 5)) (mOp fIxY (mCallN m_l_bytes (vCons (mOp fAdd (mC (.str (Str.ofString "00000"))) (mName 8)) vNil)) (mC (.int 0)))) vNil))) (mSeq (mAsg 9 (mOp fAdd (mOp fIxY (mCallN m_l_bytes (vCons (mSl (mName 8) oNo (oSm (mC (.int 8)))) vNil)) (mC (.int 0))) (mC (.int 1))))
  (mSeq (mAsg 10 (mOp fAdd (mOp fIxY (mCallN m_l_bytes (vCons (mOp fAdd (mC (.str (Str.ofString "0000"))) (mSl (mName 8) (oSm (mC (.int 8))) oNo)) vNil)) (mC (.int 0))) (mC (.int 1))))
  (mSeq (mIfS (mOr (mBl (mOp (fI0 fun i j => .bl (decide (j < i))) (mName 9) (mCB fLen (aCons (mName 3) aNil)))) (mBl (mOp (fI0 fun i j => .bl (decide (j < i))) (mName 10) (mOp (fI0 fun i j => .int (i - j)) (mName 2) (mCB fLen (aCons (mName 3) aNil)))))) (mRet (mC .non)) mNext)
  (mFor (mRng1 (aCons (mName 10) aNil)) (tgN 11) (mDrop (mBM fApp (mName 3) (vCons (mOp fIxY (mName 3) (mOp (fI0 fun i j => .int (i - j)) (mC (.int 0)) (mName 9))) vNil))))))))))))))))
  (mSeq (mIfS (mBl (mOp fIn (mC (.str (Str.ofString "1"))) (mSl (mName 0) (oSm (mName 4)) (oSm (mOp fAdd (mName 4) (mOp (fI (fun _ j => 0 < j) fun i j => .int (i % j)) (mOp (fI0 fun i j => .int (i - j)) (mC (.int 0)) (mName 4)) (mC (.int 8)))))))) (mRet (mC .non)) mNext)
  (mRet (mTup (vCons (mName 3) (vCons (mOp (fI CDiv fun i j => .int (i / j)) (mOp fAdd (mName 4) (mC (.int 7))) (mC (.int 8))) vNil))))))))
noncomputable def m_l_take : Mf := mFn 3 12 b_l_take
theorem ok_l_take {P : Program} {w : World} {K : PySem.W.Frag} {mg : Str → Option Value} {base : Heap} (T : Tx K mg) : FnOk P w K mg base CX0 2 T.a_l_take T.d_l_take ["_law_bits_here", "_law_words_here", "_law_many"] (spM K (ctT T) m_l_take) :=
  T.F_l_take.ok sc_l_take (fun vs H Q E h => sp_len h) (fun cdv A outer s H vs Q E hr h => ⟨_, (pss_cons (ps_set (i := 3) sc_l_take.nd rfl (by first | exact Or.inl rfl | exact Or.inr rfl) (pe_lst pa_nil))
      (pss_cons (ps_set (i := 4) sc_l_take.nd rfl (by first | exact Or.inl rfl | exact Or.inr rfl) pe_int)
      (pss_cons (ps_while PassesOwn.never (pt_cmpR op_lt (pe_callB (call_lenY (K := K) rfl) (by rfl) T.z_len PySem.boot_len (pa_cons (pv 3) pa_nil)) (pv 2) (nomark _)) (pss_cons (ps_set (i := 5) sc_l_take.nd rfl (by first | exact Or.inl rfl | exact Or.inr rfl) (pe_un un_neg pe_int))
      (pss_cons (ps_lock (ps_for PassesOwn.never rfl (pi_items (pv 1)) (pg_tupZ (K := K) (n := 2) rfl rfl (pgs_cons (pg_name (i := 6) sc_l_take.nd rfl (by first | exact Or.inl rfl | exact Or.inr rfl)) (pgs_cons (pg_name (i := 7) sc_l_take.nd rfl (by first | exact Or.inl rfl | exact Or.inr rfl)) pgs_nil))) (pss_one (ps_if (pt_cmpR (op_eqZ (K := K) rfl hr.units) (pe_slice (sl_Z (K := K) rfl) (pv 0) (po_some (pv 4)) (po_some (pe_op (op_addZ (K := K) rfl) (pv 4) (pe_callB (call_lenY (K := K) rfl) (by rfl) T.z_len PySem.boot_len (pa_cons (pv 7) pa_nil))))) (pv 7) (nomark _)) (pss_one (ps_set (i := 5) sc_l_take.nd rfl (by first | exact Or.inl rfl | exact Or.inr rfl) (pv 6))) pss_nil))))
      (pss_cons (ps_if (pt_cmpR (op_eqZ (K := K) rfl hr.units) (pv 5) (pe_un un_neg pe_int) (nomark _)) (pss_one (ps_ret pe_non)) pss_nil)
      (pss_cons (ps_set (i := 4) sc_l_take.nd rfl (by first | exact Or.inl rfl | exact Or.inr rfl) (pe_op (op_addZ (K := K) rfl) (pv 4) (pe_callB (call_lenY (K := K) rfl) (by rfl) T.z_len PySem.boot_len (pa_cons (pe_ix (ix_Y (K := K) rfl (hu_of hr)) (pv 1) (pv 5) (fun _ _ => rfl)) pa_nil))))
      (pss_cons (ps_set (i := 8) sc_l_take.nd rfl (by first | exact Or.inl rfl | exact Or.inr rfl) (pe_slice (sl_Z (K := K) rfl) (pv 0) (po_some (pv 4)) (po_some (pe_op (op_addZ (K := K) rfl) (pv 4) (pe_ix (ix_Y (K := K) rfl (hu_of hr)) (pe_lst (pa_cons pe_int (pa_cons pe_int pa_nil))) (pe_callTy (call_intY) (by rfl) T.z_int (by decide +kernel) (pa_cons (pe_cmpR (op_eqZ (K := K) rfl hr.units) (pv 5) pe_int (nomark _)) pa_nil)) (fun _ _ => rfl))))))
      (pss_cons (ps_if (pt_cmpR op_lt (pe_callB (call_lenY (K := K) rfl) (by rfl) T.z_len PySem.boot_len (pa_cons (pv 8) pa_nil)) (pe_ix (ix_Y (K := K) rfl (hu_of hr)) (pe_lst (pa_cons pe_int (pa_cons pe_int pa_nil))) (pe_callTy (call_intY) (by rfl) T.z_int (by decide +kernel) (pa_cons (pe_cmpR (op_eqZ (K := K) rfl hr.units) (pv 5) pe_int (nomark _)) pa_nil)) (fun _ _ => rfl)) (nomark _)) (pss_one (ps_ret pe_non)) pss_nil)
      (pss_cons (ps_set (i := 4) sc_l_take.nd rfl (by first | exact Or.inl rfl | exact Or.inr rfl) (pe_op (op_addZ (K := K) rfl) (pv 4) (pe_callB (call_lenY (K := K) rfl) (by rfl) T.z_len PySem.boot_len (pa_cons (pv 8) pa_nil))))
      (pss_one (ps_if (pt_cmpR op_lt (pv 5) pe_int (nomark _)) (pss_one (ps_expr (pe_bmZ (K := K) rfl PySem.F.plainAttrs_list PySem.F.slot_list_append PySem.F.type_list_append mt_append (pv 3) (pa_cons (pe_op (op_addZ (K := K) rfl) (pe_op op_mulZ pe_int (pv 5)) (pe_ix (ix_Y (K := K) rfl (hu_of hr)) (pe_callZ (ok_l_bytes T) (hr.mono (by decide)) (by rfl) T.g_l_bytes T.F_l_bytes.kp T.b_l_bytes pass0 (pa_cons (pe_op (op_addZ (K := K) rfl) pe_str (pv 8)) pa_nil)) pe_int (fun _ _ => rfl))) pa_nil)))) (pss_cons (ps_set (i := 9) sc_l_take.nd rfl (by first | exact Or.inl rfl | exact Or.inr rfl) (pe_op (op_addZ (K := K) rfl) (pe_ix (ix_Y (K := K) rfl (hu_of hr)) (pe_callZ (ok_l_bytes T) (hr.mono (by decide)) (by rfl) T.g_l_bytes T.F_l_bytes.kp T.b_l_bytes pass0 (pa_cons (pe_slice (sl_Z (K := K) rfl) (pv 8) po_none (po_some pe_int)) pa_nil)) pe_int (fun _ _ => rfl)) pe_int))
      (pss_cons (ps_set (i := 10) sc_l_take.nd rfl (by first | exact Or.inl rfl | exact Or.inr rfl) (pe_op (op_addZ (K := K) rfl) (pe_ix (ix_Y (K := K) rfl (hu_of hr)) (pe_callZ (ok_l_bytes T) (hr.mono (by decide)) (by rfl) T.g_l_bytes T.F_l_bytes.kp T.b_l_bytes pass0 (pa_cons (pe_op (op_addZ (K := K) rfl) pe_str (pe_slice (sl_Z (K := K) rfl) (pv 8) (po_some pe_int) po_none)) pa_nil)) pe_int (fun _ _ => rfl)) pe_int))
      (pss_cons (ps_if (PW.pt (pw_or (pt_cmpR op_gt (pv 9) (pe_callB (call_lenY (K := K) rfl) (by rfl) T.z_len PySem.boot_len (pa_cons (pv 3) pa_nil)) (nomark _)) (pw_or1 (pt_cmpR op_gt (pv 10) (pe_op op_sub (pv 2) (pe_callB (call_lenY (K := K) rfl) (by rfl) T.z_len PySem.boot_len (pa_cons (pv 3) pa_nil))) (nomark _))))) (pss_one (ps_ret pe_non)) pss_nil)
      (pss_one (ps_for PassesOwn.never rfl (pi_range1 rfl T.z_range (pa_cons (pv 10) pa_nil)) (pg_name (i := 11) sc_l_take.nd rfl (by first | exact Or.inl rfl | exact Or.inr rfl)) (pss_one (ps_expr (pe_bmZ (K := K) rfl PySem.F.plainAttrs_list PySem.F.slot_list_append PySem.F.type_list_append mt_append (pv 3) (pa_cons (pe_ix (ix_Y (K := K) rfl (hu_of hr)) (pv 3) (pe_op op_sub pe_int (pv 9)) (fun _ _ => rfl)) pa_nil)))))))))))))))))))
      (pss_cons (ps_if (pt_cmpR (op_inY (K := K) rfl (u65 hr)) pe_str (pe_slice (sl_Z (K := K) rfl) (pv 0) (po_some (pv 4)) (po_some (pe_op (op_addZ (K := K) rfl) (pv 4) (pe_op op_mod (pe_op op_sub pe_int (pv 4)) pe_int)))) (by rfl)) (pss_one (ps_ret pe_non)) pss_nil)
      (pss_one (ps_ret (pe_tup (pa_cons (pv 3) (pa_cons (pe_op op_fdiv (pe_op (op_addZ (K := K) rfl) (pv 4) pe_int) pe_int) pa_nil))))))))),
    fn_run (np := 3) (N := ["_law_bits_here", "_law_words_here", "_law_many", "_law_made", "_law_at", "_law_symbol", "_law_one", "_law_word", "_law_rest", "_law_far", "_law_size", "_law_k"]) (body := b_l_take) (by unfold b_l_take; exact (sv_seq (sv_asg (ei_lst ev_nil))
      (sv_seq (sv_asg (ei_c cr_int))
      (sv_seq (sv_while (et_tst (ei_op (j_I0 fun _ _ => cr_bl) (ei_cb jb_len (ea_cons ei_var ea_nil)) ei_var)) (sv_seq (sv_asg (ei_un j_neg (ei_c cr_int)))
      (sv_seq (sv_forD (kd := .items) (i := 1) rfl (fun b => (sg_tup (sgs_cons sg_name (sgs_cons sg_name sgs_nil)))) (fun b => (sv_if (et_tst (ei_op j_eq (ei_sl ei_var (eo_sm ei_var) (eo_sm (ei_op j_add ei_var (ei_cb jb_len (ea_cons ei_var ea_nil))))) ei_var)) (sv_asg ei_var) sv_next)))
      (sv_seq (sv_if (et_tst (ei_op j_eq ei_var (ei_un j_neg (ei_c cr_int)))) (sv_ret (ei_c cr_non)) sv_next)
      (sv_seq (sv_asg (ei_op j_add ei_var (ei_cb jb_len (ea_cons (ei_op j_ixY ei_var ei_var) ea_nil))))
      (sv_seq (sv_asg (ei_sl ei_var (eo_sm ei_var) (eo_sm (ei_op j_add ei_var (ei_op j_ixY (ei_lst (ev_cons (ei_c cr_int) (ev_cons (ei_c cr_int) ev_nil))) (ei_cb jb_int (ea_cons (ei_op j_eq ei_var (ei_c cr_int)) ea_nil)))))))
      (sv_seq (sv_if (et_tst (ei_op (j_I0 fun _ _ => cr_bl) (ei_cb jb_len (ea_cons ei_var ea_nil)) (ei_op j_ixY (ei_lst (ev_cons (ei_c cr_int) (ev_cons (ei_c cr_int) ev_nil))) (ei_cb jb_int (ea_cons (ei_op j_eq ei_var (ei_c cr_int)) ea_nil))))) (sv_ret (ei_c cr_non)) sv_next)
      (sv_seq (sv_asg (ei_op j_add ei_var (ei_cb jb_len (ea_cons ei_var ea_nil))))
      (sv_if (et_tst (ei_op (j_I0 fun _ _ => cr_bl) ei_var (ei_c cr_int))) (sv_drop (ei_bm jm_app ei_var (ev_cons (ei_op j_add (ei_op j_mul (ei_c cr_int) ei_var) (ei_op j_ixY (ei_callN (ev_cons (ei_op j_add (ei_c cr_str) ei_var) ev_nil)) (ei_c cr_int))) ev_nil))) (sv_seq (sv_asg (ei_op j_add (ei_op j_ixY (ei_callN (ev_cons (ei_sl ei_var eo_no (eo_sm (ei_c cr_int))) ev_nil)) (ei_c cr_int)) (ei_c cr_int)))
      (sv_seq (sv_asg (ei_op j_add (ei_op j_ixY (ei_callN (ev_cons (ei_op j_add (ei_c cr_str) (ei_sl ei_var (eo_sm (ei_c cr_int)) eo_no)) ev_nil)) (ei_c cr_int)) (ei_c cr_int)))
      (sv_seq (sv_if (et_or (et_tst (ei_op (j_I0 fun _ _ => cr_bl) ei_var (ei_cb jb_len (ea_cons ei_var ea_nil)))) (et_tst (ei_op (j_I0 fun _ _ => cr_bl) ei_var (ei_op (j_I0 fun _ _ => cr_int) ei_var (ei_cb jb_len (ea_cons ei_var ea_nil)))))) (sv_ret (ei_c cr_non)) sv_next)
      (sv_for (jw_rng1 (ea_cons ei_var ea_nil)) sg_name (sv_drop (ei_bm jm_app ei_var (ev_cons (ei_op j_ixY ei_var (ei_op (j_I0 fun _ _ => cr_int) (ei_c cr_int) ei_var)) ev_nil))))))))))))))))
      (sv_seq (sv_if (et_tst (ei_op j_in (ei_c cr_str) (ei_sl ei_var (eo_sm ei_var) (eo_sm (ei_op j_add ei_var (ei_op (j_I fun _ _ => cr_int) (ei_op (j_I0 fun _ _ => cr_int) (ei_c cr_int) ei_var) (ei_c cr_int))))))) (sv_ret (ei_c cr_non)) sv_next)
      (sv_ret (ei_tup (ev_cons ei_var (ev_cons (ei_op (j_I fun _ _ => cr_int) (ei_op j_add ei_var (ei_c cr_int)) (ei_c cr_int)) ev_nil))))))))) h⟩)
@[irreducible] noncomputable def b_l_words : Ms :=
  (mSeq (mAsg 1 mDNew)
  (mSeq (mAsg 2 (mC (.int 0)))
  (mSeq (mAsg 3 (mC (.int 0)))
  (mSeq (mFor (mRng2 (aCons (mC (.int 1)) (aCons (mC (.int 16)) aNil))) (tgN 4) (mFor (mRng1 (aCons (mC (.int 33)) aNil)) (tgN 5) (mIfS (mBl (mOp fEq (mOp fIxY (mName 0) (mName 5)) (mName 4))) (mSeq (mAsg 2 (mOp (fI CShl fun i j => .int (i * 2 ^ j.toNat)) (mName 2) (mOp (fI0 fun i j => .int (i - j)) (mName 4) (mName 3))))
  (mSeq (mAsgS (mName 1) (mName 5) (mCallN m_l_bits (vCons (mName 2) (vCons (mName 4) vNil))))
  (mSeq (mAsg 2 (mOp fAdd (mName 2) (mC (.int 1))))
  (mAsg 3 (mName 4))))) mNext)))
  (mRet (mName 1))))))
noncomputable def m_l_words : Mf := mFn 1 6 b_l_words
theorem ok_l_words {P : Program} {w : World} {K : PySem.W.Frag} {mg : Str → Option Value} {base : Heap} (T : Tx K mg) : FnOk P w K mg base CX0 2 T.a_l_words T.d_l_words ["_law_lengths_here"] (spM K (ctT T) m_l_words) :=
  T.F_l_words.ok sc_l_words (fun vs H Q E h => sp_len h) (fun cdv A outer s H vs Q E hr h => ⟨_, (pss_cons (ps_set (i := 1) sc_l_words.nd rfl (by first | exact Or.inl rfl | exact Or.inr rfl) pe_dnewK)
      (pss_cons (ps_set (i := 2) sc_l_words.nd rfl (by first | exact Or.inl rfl | exact Or.inr rfl) pe_int)
      (pss_cons (ps_set (i := 3) sc_l_words.nd rfl (by first | exact Or.inl rfl | exact Or.inr rfl) pe_int)
      (pss_cons (ps_for PassesOwn.never rfl (pi_range2 rfl T.z_range (pa_cons pe_int (pa_cons pe_int pa_nil))) (pg_name (i := 4) sc_l_words.nd rfl (by first | exact Or.inl rfl | exact Or.inr rfl)) (pss_one (ps_for PassesOwn.never rfl (pi_range1 rfl T.z_range (pa_cons pe_int pa_nil)) (pg_name (i := 5) sc_l_words.nd rfl (by first | exact Or.inl rfl | exact Or.inr rfl)) (pss_one (ps_if (pt_cmpR (op_eqZ (K := K) rfl hr.units) (pe_ix (ix_Y (K := K) rfl (hu_of hr)) (pv 0) (pv 5) (fun _ _ => rfl)) (pv 4) (nomark _)) (pss_cons (ps_set (i := 2) sc_l_words.nd rfl (by first | exact Or.inl rfl | exact Or.inr rfl) (pe_op op_shlW (pv 2) (pe_op op_sub (pv 4) (pv 3))))
      (pss_cons (ps_asg (pe_callZ (ok_l_bits T) (hr.mono (by decide)) (by rfl) T.g_l_bits T.F_l_bits.kp T.b_l_bits pass0 (pa_cons (pv 2) (pa_cons (pv 4) pa_nil))) (pg_sub (pv 1) (pv 5) (set_Y (hu_of hr))))
      (pss_cons (ps_set (i := 2) sc_l_words.nd rfl (by first | exact Or.inl rfl | exact Or.inr rfl) (pe_op (op_addZ (K := K) rfl) (pv 2) pe_int))
      (pss_one (ps_set (i := 3) sc_l_words.nd rfl (by first | exact Or.inl rfl | exact Or.inr rfl) (pv 4)))))) pss_nil)))))
      (pss_one (ps_ret (pv 1))))))),
    fn_run (np := 1) (N := ["_law_lengths_here", "_law_words_here", "_law_number", "_law_last", "_law_length", "_law_symbol"]) (body := b_l_words) (by unfold b_l_words; exact (sv_seq (sv_asg ei_dnew)
      (sv_seq (sv_asg (ei_c cr_int))
      (sv_seq (sv_asg (ei_c cr_int))
      (sv_seq (sv_for (jw_rng2 (ea_cons (ei_c cr_int) (ea_cons (ei_c cr_int) ea_nil))) sg_name (sv_for (jw_rng1 (ea_cons (ei_c cr_int) ea_nil)) sg_name (sv_if (et_tst (ei_op j_eq (ei_op j_ixY ei_var ei_var) ei_var)) (sv_seq (sv_asg (ei_op (j_I fun _ _ => cr_int) ei_var (ei_op (j_I0 fun _ _ => cr_int) ei_var ei_var)))
      (sv_seq (sv_asgS (ei_callN (ev_cons ei_var (ev_cons ei_var ev_nil))) ei_var ei_var)
      (sv_seq (sv_asg (ei_op j_add ei_var (ei_c cr_int)))
      (sv_asg ei_var)))) sv_next)))
      (sv_ret ei_var)))))) h⟩)
@[irreducible] noncomputable def b_l_unpacked : Ms :=
  (mSeq (mAsg 2 (mJoin (mC (.str (Str.ofString ""))) (mLc [5] (mWL (mName 0)) (tgN 5) mYes (mCallN m_l_bits (vCons (mName 5) (vCons (mC (.int 8)) vNil))))))
  (mSeq (mIfS (mOr (mBl (mOp fEq (mName 1) (mC (.int 0)))) (mOr (mBl (mOp (fI0 fun i j => .bl (decide (i < j))) (mCB fLen (aCons (mName 0) aNil)) (mC (.int 17)))) (mBl (mOp fNe (mSl (mName 2) (oSm (mC (.int 132))) (oSm (mC (.int 136)))) (mC (.str (Str.ofString "0000"))))))) (mRet (mC .non)) mNext)
  (mSeq (mAsg 3 (mLc [6] (mRng1 (aCons (mC (.int 33)) aNil)) (tgN 6) mYes (mOp fIxY (mCallN m_l_bytes (vCons (mOp fAdd (mC (.str (Str.ofString "0000"))) (mSl (mName 2) (oSm (mOp fMul (mC (.int 4)) (mName 6))) (oSm (mOp fAdd (mOp fMul (mC (.int 4)) (mName 6)) (mC (.int 4)))))) vNil)) (mC (.int 0)))))
  (mSeq (mIfS (mOr (mBl (mOp (fI0 fun i j => .bl (decide (j < i))) (mCallN m_l_room (vCons (mName 3) vNil)) (mC (.int 32768)))) (mBl (mOp fEq (mCB (fInts gMax) (aCons (mSl (mName 3) oNo (oSm (mC (.int 32)))) aNil)) (mC (.int 0))))) (mRet (mC .non)) mNext)
  (mSeq (mAsg 4 (mCallN m_l_take (vCons (mSl (mName 2) (oSm (mC (.int 136))) oNo) (vCons (mCallN m_l_words (vCons (mName 3) vNil)) (vCons (mName 1) vNil)))))
  (mSeq (mIfS (mBl (mOp fIs (mName 4) (mC .non))) (mRet (mC .non)) mNext)
  (mRet (mTup (vCons (mOp fIxY (mName 4) (mC (.int 0))) (vCons (mOp fAdd (mOp fIxY (mName 4) (mC (.int 1))) (mC (.int 17))) vNil))))))))))
noncomputable def m_l_unpacked : Mf := mFn 2 7 b_l_unpacked
theorem ok_l_unpacked {P : Program} {w : World} {K : PySem.W.Frag} {mg : Str → Option Value} {base : Heap} (T : Tx K mg) : FnOk P w K mg base CX0 3 T.a_l_unpacked T.d_l_unpacked ["_law_row", "_law_many"] (spM K (ctT T) m_l_unpacked) :=
  T.F_l_unpacked.ok sc_l_unpacked (fun vs H Q E h => sp_len h) (fun cdv A outer s H vs Q E hr h => ⟨_, (pss_cons (ps_set (i := 2) sc_l_unpacked.nd rfl (by first | exact Or.inl rfl | exact Or.inr rfl) (pe_joinY (K := K) rfl pe_str (pe_lc (own := [("_law_byte", 5)]) rfl sc_l_unpacked.nd (pi_listZ (K := K) rfl (pv 0)) (blkOk_by (N := ["_law_row", "_law_many", "_law_bits_here", "_law_lengths_here", "_law_found", "_law_byte", "_law_k"]) (sc := defScope s_l_unpacked) (by decide +kernel)) (fun _ _ _ _ _ => (pg_name (i := 5) sc_l_unpacked.nd rfl (by first | exact Or.inl rfl | exact Or.inr rfl))) (fun _ _ _ _ _ => pts_nil) (fun _ _ _ _ _ => (pe_callZ (ok_l_bits T) (hr.mono (by decide)) (by rfl) T.g_l_bits T.F_l_bits.kp T.b_l_bits pass0 (pa_cons (pv 5) (pa_cons pe_int pa_nil)))))))
      (pss_cons (ps_if (PW.pt (pw_or (pt_cmpR (op_eqZ (K := K) rfl hr.units) (pv 1) pe_int (nomark _)) (pw_or (pt_cmpR op_lt (pe_callB (call_lenY (K := K) rfl) (by rfl) T.z_len PySem.boot_len (pa_cons (pv 0) pa_nil)) pe_int (nomark _)) (pw_or1 (pt_cmpR (op_neZ (K := K) rfl hr.units) (pe_slice (sl_Z (K := K) rfl) (pv 2) (po_some pe_int) (po_some pe_int)) pe_str (nomark _)))))) (pss_one (ps_ret pe_non)) pss_nil)
      (pss_cons (ps_setLc (i := 3) (own := [("_law_k", 6)]) rfl sc_l_unpacked.nd rfl rfl (sw_true rfl rfl rfl (by decide +kernel)) (pi_range1 rfl T.z_range (pa_cons pe_int pa_nil)) (blkOk_by (N := ["_law_row", "_law_many", "_law_bits_here", "_law_lengths_here", "_law_found", "_law_byte", "_law_k"]) (sc := defScope s_l_unpacked) (by decide +kernel)) (fun _ _ _ _ _ => (pg_name (i := 6) sc_l_unpacked.nd rfl (by first | exact Or.inl rfl | exact Or.inr rfl))) (fun _ _ _ _ _ => pts_nil) (fun _ _ _ _ _ => (pe_ix (ix_Y (K := K) rfl (hu_of hr)) (pe_callZ (ok_l_bytes T) (hr.mono (by decide)) (by rfl) T.g_l_bytes T.F_l_bytes.kp T.b_l_bytes pass0 (pa_cons (pe_op (op_addZ (K := K) rfl) pe_str (pe_slice (sl_Z (K := K) rfl) (pv 2) (po_some (pe_op op_mulZ pe_int (pv 6))) (po_some (pe_op (op_addZ (K := K) rfl) (pe_op op_mulZ pe_int (pv 6)) pe_int)))) pa_nil)) pe_int (fun _ _ => rfl))))
      (pss_cons (ps_if (PW.pt (pw_or (pt_cmpR op_gt (pe_callZ (ok_l_room T) (hr.mono (by decide)) (by rfl) T.g_l_room T.F_l_room.kp T.b_l_room pass0 (pa_cons (pv 3) pa_nil)) pe_int (nomark _)) (pw_or1 (pt_cmpR (op_eqZ (K := K) rfl hr.units) (pe_callB (cr_maxZ (K := K) rfl rfl) (by rfl) T.z_max (by decide +kernel) (pa_cons (pe_slice (sl_Z (K := K) rfl) (pv 3) po_none (po_some pe_int)) pa_nil)) pe_int (nomark _))))) (pss_one (ps_ret pe_non)) pss_nil)
      (pss_cons (ps_set (i := 4) sc_l_unpacked.nd rfl (by first | exact Or.inl rfl | exact Or.inr rfl) (pe_callZ (ok_l_take T) (hr.mono (by decide)) (by rfl) T.g_l_take T.F_l_take.kp T.b_l_take pass0 (pa_cons (pe_slice (sl_Z (K := K) rfl) (pv 2) (po_some pe_int) po_none) (pa_cons (pe_callZ (ok_l_words T) (hr.mono (by decide)) (by rfl) T.g_l_words T.F_l_words.kp T.b_l_words pass0 (pa_cons (pv 3) pa_nil)) (pa_cons (pv 1) pa_nil)))))
      (pss_cons (ps_if (pt_cmpR op_isZ (pv 4) pe_non (nomark _)) (pss_one (ps_ret pe_non)) pss_nil)
      (pss_one (ps_ret (pe_tup (pa_cons (pe_ix (ix_Y (K := K) rfl (hu_of hr)) (pv 4) pe_int (fun _ _ => rfl)) (pa_cons (pe_op (op_addZ (K := K) rfl) (pe_ix (ix_Y (K := K) rfl (hu_of hr)) (pv 4) pe_int (fun _ _ => rfl)) pe_int) pa_nil))))))))))),
    fn_run (np := 2) (N := ["_law_row", "_law_many", "_law_bits_here", "_law_lengths_here", "_law_found", "_law_byte", "_law_k"]) (body := b_l_unpacked) (by unfold b_l_unpacked; exact (sv_seq (sv_asg (ei_join (ei_c cr_str) (ei_lc (ws := [5]) (jw_list ei_var) sg_name (by decide) et_yes (ei_callN (ev_cons ei_var (ev_cons (ei_c cr_int) ev_nil))))))
      (sv_seq (sv_if (et_or (et_tst (ei_op j_eq ei_var (ei_c cr_int))) (et_or (et_tst (ei_op (j_I0 fun _ _ => cr_bl) (ei_cb jb_len (ea_cons ei_var ea_nil)) (ei_c cr_int))) (et_tst (ei_op j_ne (ei_sl ei_var (eo_sm (ei_c cr_int)) (eo_sm (ei_c cr_int))) (ei_c cr_str))))) (sv_ret (ei_c cr_non)) sv_next)
      (sv_seq (sv_asg (ei_lc (ws := [6]) (jw_rng1 (ea_cons (ei_c cr_int) ea_nil)) sg_name (by decide) et_yes (ei_op j_ixY (ei_callN (ev_cons (ei_op j_add (ei_c cr_str) (ei_sl ei_var (eo_sm (ei_op j_mul (ei_c cr_int) ei_var)) (eo_sm (ei_op j_add (ei_op j_mul (ei_c cr_int) ei_var) (ei_c cr_int))))) ev_nil)) (ei_c cr_int))))
      (sv_seq (sv_if (et_or (et_tst (ei_op (j_I0 fun _ _ => cr_bl) (ei_callN (ev_cons ei_var ev_nil)) (ei_c cr_int))) (et_tst (ei_op j_eq (ei_cb jb_max (ea_cons (ei_sl ei_var eo_no (eo_sm (ei_c cr_int))) ea_nil)) (ei_c cr_int)))) (sv_ret (ei_c cr_non)) sv_next)
      (sv_seq (sv_asg (ei_callN (ev_cons (ei_sl ei_var (eo_sm (ei_c cr_int)) eo_no) (ev_cons (ei_callN (ev_cons ei_var ev_nil)) (ev_cons ei_var ev_nil)))))
      (sv_seq (sv_if (et_tst (ei_op j_is ei_var (ei_c cr_non))) (sv_ret (ei_c cr_non)) sv_next)
      (sv_ret (ei_tup (ev_cons (ei_op j_ixY ei_var (ei_c cr_int)) (ev_cons (ei_op j_add (ei_op j_ixY ei_var (ei_c cr_int)) (ei_c cr_int)) ev_nil))))))))))) h⟩)
@[irreducible] noncomputable def b_l_due : Ms :=
  (mSeq (mAsg 2 (mSl (mName 0) (oSm (mOp fAdd (mName 1) (mC (.int 2)))) oNo))
  (mSeq (mIfS (mOr (mBl (mOp fNe (mSl (mName 0) (oSm (mName 1)) (oSm (mOp fAdd (mName 1) (mC (.int 2))))) (mLst (vCons (mC (.int 165)) (vCons (mC (.int 90)) vNil))))) (mBl (mOp (fI0 fun i j => .bl (decide (i < j))) (mCB fLen (aCons (mName 2) aNil)) (mC (.int 4))))) (mRet (mC .non)) mNext)
  (mSeq (mIfS (mOr (mBl (mOp (fI0 fun i j => .bl (decide (j < i))) (mOp fIxY (mName 2) (mC (.int 0))) (mC (.int 1)))) (mOr (mBl (mOp (fI0 fun i j => .bl (decide (j < i))) (mOp fIxY (mName 2) (mC (.int 1))) (mC (.int 254)))) (mBl (mOp (fI0 fun i j => .bl (decide (j < i))) (mOp fIxY (mName 2) (mC (.int 2))) (mC (.int 254)))))) (mRet (mC .non)) mNext)
  (mSeq (mAsg 3 (mTup (vCons (mSl (mName 2) (oSm (mC (.int 4))) (oSm (mOp fAdd (mC (.int 4)) (mOp fIxY (mName 2) (mC (.int 3)))))) (vCons (mOp fIxY (mName 2) (mC (.int 3))) vNil))))
  (mSeq (mIfS (mBl (mOp fEq (mOp fIxY (mName 2) (mC (.int 0))) (mC (.int 1)))) (mAsg 3 (mCallN m_l_unpacked (vCons (mSl (mName 2) (oSm (mC (.int 4))) oNo) (vCons (mOp fIxY (mName 2) (mC (.int 3))) vNil)))) mNext)
  (mSeq (mIfS (mOr (mBl (mOp fIs (mName 3) (mC .non))) (mBl (mOp (fI0 fun i j => .bl (decide (i < j))) (mCB fLen (aCons (mName 2) aNil)) (mOp fAdd (mC (.int 6)) (mOp fIxY (mName 3) (mC (.int 1))))))) (mRet (mC .non)) mNext)
  (mSeq (mIfS (mBl (mOp fNe (mSl (mName 2) (oSm (mOp fAdd (mC (.int 4)) (mOp fIxY (mName 3) (mC (.int 1))))) (oSm (mOp fAdd (mC (.int 6)) (mOp fIxY (mName 3) (mC (.int 1)))))) (mCallN m_l_sum (vCons (mSl (mName 2) oNo (oSm (mOp fAdd (mC (.int 4)) (mOp fIxY (mName 3) (mC (.int 1)))))) vNil)))) (mRet (mC .non)) mNext)
  (mRet (mTup (vCons (mOp fIxY (mName 2) (mC (.int 0))) (vCons (mOp fIxY (mName 2) (mC (.int 1))) (vCons (mOp fIxY (mName 2) (mC (.int 2))) (vCons (mOp fIxY (mName 3) (mC (.int 0))) (vCons (mOp fAdd (mOp fAdd (mName 1) (mC (.int 8))) (mOp fIxY (mName 3) (mC (.int 1)))) vNil))))))))))))))
noncomputable def m_l_due : Mf := mFn 2 4 b_l_due
theorem ok_l_due {P : Program} {w : World} {K : PySem.W.Frag} {mg : Str → Option Value} {base : Heap} (T : Tx K mg) : FnOk P w K mg base CX0 4 T.a_l_due T.d_l_due ["_law_row", "_law_place"] (spM K (ctT T) m_l_due) :=
  T.F_l_due.ok sc_l_due (fun vs H Q E h => sp_len h) (fun cdv A outer s H vs Q E hr h => ⟨_, (pss_cons (ps_set (i := 2) sc_l_due.nd rfl (by first | exact Or.inl rfl | exact Or.inr rfl) (pe_slice (sl_Z (K := K) rfl) (pv 0) (po_some (pe_op (op_addZ (K := K) rfl) (pv 1) pe_int)) po_none))
      (pss_cons (ps_if (PW.pt (pw_or (pt_cmpR (op_neZ (K := K) rfl hr.units) (pe_slice (sl_Z (K := K) rfl) (pv 0) (po_some (pv 1)) (po_some (pe_op (op_addZ (K := K) rfl) (pv 1) pe_int))) (pe_lst (pa_cons pe_int (pa_cons pe_int pa_nil))) (nomark _)) (pw_or1 (pt_cmpR op_lt (pe_callB (call_lenY (K := K) rfl) (by rfl) T.z_len PySem.boot_len (pa_cons (pv 2) pa_nil)) pe_int (nomark _))))) (pss_one (ps_ret pe_non)) pss_nil)
      (pss_cons (ps_if (PW.pt (pw_or (pt_cmpR op_gt (pe_ix (ix_Y (K := K) rfl (hu_of hr)) (pv 2) pe_int (fun _ _ => rfl)) pe_int (nomark _)) (pw_or (pt_cmpR op_gt (pe_ix (ix_Y (K := K) rfl (hu_of hr)) (pv 2) pe_int (fun _ _ => rfl)) pe_int (nomark _)) (pw_or1 (pt_cmpR op_gt (pe_ix (ix_Y (K := K) rfl (hu_of hr)) (pv 2) pe_int (fun _ _ => rfl)) pe_int (nomark _)))))) (pss_one (ps_ret pe_non)) pss_nil)
      (pss_cons (ps_set (i := 3) sc_l_due.nd rfl (by first | exact Or.inl rfl | exact Or.inr rfl) (pe_tup (pa_cons (pe_slice (sl_Z (K := K) rfl) (pv 2) (po_some pe_int) (po_some (pe_op (op_addZ (K := K) rfl) pe_int (pe_ix (ix_Y (K := K) rfl (hu_of hr)) (pv 2) pe_int (fun _ _ => rfl))))) (pa_cons (pe_ix (ix_Y (K := K) rfl (hu_of hr)) (pv 2) pe_int (fun _ _ => rfl)) pa_nil))))
      (pss_cons (ps_if (pt_cmpR (op_eqZ (K := K) rfl hr.units) (pe_ix (ix_Y (K := K) rfl (hu_of hr)) (pv 2) pe_int (fun _ _ => rfl)) pe_int (nomark _)) (pss_one (ps_set (i := 3) sc_l_due.nd rfl (by first | exact Or.inl rfl | exact Or.inr rfl) (pe_callZ (ok_l_unpacked T) (hr.mono (by decide)) (by rfl) T.g_l_unpacked T.F_l_unpacked.kp T.b_l_unpacked pass0 (pa_cons (pe_slice (sl_Z (K := K) rfl) (pv 2) (po_some pe_int) po_none) (pa_cons (pe_ix (ix_Y (K := K) rfl (hu_of hr)) (pv 2) pe_int (fun _ _ => rfl)) pa_nil))))) pss_nil)
      (pss_cons (ps_if (PW.pt (pw_or (pt_cmpR op_isZ (pv 3) pe_non (nomark _)) (pw_or1 (pt_cmpR op_lt (pe_callB (call_lenY (K := K) rfl) (by rfl) T.z_len PySem.boot_len (pa_cons (pv 2) pa_nil)) (pe_op (op_addZ (K := K) rfl) pe_int (pe_ix (ix_Y (K := K) rfl (hu_of hr)) (pv 3) pe_int (fun _ _ => rfl))) (nomark _))))) (pss_one (ps_ret pe_non)) pss_nil)
      (pss_cons (ps_if (pt_cmpR (op_neZ (K := K) rfl hr.units) (pe_slice (sl_Z (K := K) rfl) (pv 2) (po_some (pe_op (op_addZ (K := K) rfl) pe_int (pe_ix (ix_Y (K := K) rfl (hu_of hr)) (pv 3) pe_int (fun _ _ => rfl)))) (po_some (pe_op (op_addZ (K := K) rfl) pe_int (pe_ix (ix_Y (K := K) rfl (hu_of hr)) (pv 3) pe_int (fun _ _ => rfl))))) (pe_callZ (ok_l_sum T) (hr.mono (by decide)) (by rfl) T.g_l_sum T.F_l_sum.kp T.b_l_sum pass0 (pa_cons (pe_slice (sl_Z (K := K) rfl) (pv 2) po_none (po_some (pe_op (op_addZ (K := K) rfl) pe_int (pe_ix (ix_Y (K := K) rfl (hu_of hr)) (pv 3) pe_int (fun _ _ => rfl))))) pa_nil)) (nomark _)) (pss_one (ps_ret pe_non)) pss_nil)
      (pss_one (ps_ret (pe_tup (pa_cons (pe_ix (ix_Y (K := K) rfl (hu_of hr)) (pv 2) pe_int (fun _ _ => rfl)) (pa_cons (pe_ix (ix_Y (K := K) rfl (hu_of hr)) (pv 2) pe_int (fun _ _ => rfl)) (pa_cons (pe_ix (ix_Y (K := K) rfl (hu_of hr)) (pv 2) pe_int (fun _ _ => rfl)) (pa_cons (pe_ix (ix_Y (K := K) rfl (hu_of hr)) (pv 3) pe_int (fun _ _ => rfl)) (pa_cons (pe_op (op_addZ (K := K) rfl) (pe_op (op_addZ (K := K) rfl) (pv 1) pe_int) (pe_ix (ix_Y (K := K) rfl (hu_of hr)) (pv 3) pe_int (fun _ _ => rfl))) pa_nil))))))))))))))),
    fn_run (np := 2) (N := ["_law_row", "_law_place", "_law_told", "_law_found"]) (body := b_l_due) (by unfold b_l_due; exact (sv_seq (sv_asg (ei_sl ei_var (eo_sm (ei_op j_add ei_var (ei_c cr_int))) eo_no))
      (sv_seq (sv_if (et_or (et_tst (ei_op j_ne (ei_sl ei_var (eo_sm ei_var) (eo_sm (ei_op j_add ei_var (ei_c cr_int)))) (ei_lst (ev_cons (ei_c cr_int) (ev_cons (ei_c cr_int) ev_nil))))) (et_tst (ei_op (j_I0 fun _ _ => cr_bl) (ei_cb jb_len (ea_cons ei_var ea_nil)) (ei_c cr_int)))) (sv_ret (ei_c cr_non)) sv_next)
      (sv_seq (sv_if (et_or (et_tst (ei_op (j_I0 fun _ _ => cr_bl) (ei_op j_ixY ei_var (ei_c cr_int)) (ei_c cr_int))) (et_or (et_tst (ei_op (j_I0 fun _ _ => cr_bl) (ei_op j_ixY ei_var (ei_c cr_int)) (ei_c cr_int))) (et_tst (ei_op (j_I0 fun _ _ => cr_bl) (ei_op j_ixY ei_var (ei_c cr_int)) (ei_c cr_int))))) (sv_ret (ei_c cr_non)) sv_next)
      (sv_seq (sv_asg (ei_tup (ev_cons (ei_sl ei_var (eo_sm (ei_c cr_int)) (eo_sm (ei_op j_add (ei_c cr_int) (ei_op j_ixY ei_var (ei_c cr_int))))) (ev_cons (ei_op j_ixY ei_var (ei_c cr_int)) ev_nil))))
      (sv_seq (sv_if (et_tst (ei_op j_eq (ei_op j_ixY ei_var (ei_c cr_int)) (ei_c cr_int))) (sv_asg (ei_callN (ev_cons (ei_sl ei_var (eo_sm (ei_c cr_int)) eo_no) (ev_cons (ei_op j_ixY ei_var (ei_c cr_int)) ev_nil)))) sv_next)
      (sv_seq (sv_if (et_or (et_tst (ei_op j_is ei_var (ei_c cr_non))) (et_tst (ei_op (j_I0 fun _ _ => cr_bl) (ei_cb jb_len (ea_cons ei_var ea_nil)) (ei_op j_add (ei_c cr_int) (ei_op j_ixY ei_var (ei_c cr_int)))))) (sv_ret (ei_c cr_non)) sv_next)
      (sv_seq (sv_if (et_tst (ei_op j_ne (ei_sl ei_var (eo_sm (ei_op j_add (ei_c cr_int) (ei_op j_ixY ei_var (ei_c cr_int)))) (eo_sm (ei_op j_add (ei_c cr_int) (ei_op j_ixY ei_var (ei_c cr_int))))) (ei_callN (ev_cons (ei_sl ei_var eo_no (eo_sm (ei_op j_add (ei_c cr_int) (ei_op j_ixY ei_var (ei_c cr_int))))) ev_nil)))) (sv_ret (ei_c cr_non)) sv_next)
      (sv_ret (ei_tup (ev_cons (ei_op j_ixY ei_var (ei_c cr_int)) (ev_cons (ei_op j_ixY ei_var (ei_c cr_int)) (ev_cons (ei_op j_ixY ei_var (ei_c cr_int)) (ev_cons (ei_op j_ixY ei_var (ei_c cr_int)) (ev_cons (ei_op j_add (ei_op j_add ei_var (ei_c cr_int)) (ei_op j_ixY ei_var (ei_c cr_int))) ev_nil))))))))))))))) h⟩)
@[irreducible] noncomputable def b_l_next : Ms :=
  (mSeq (mAsgS (mName 0) (mC (.int 1)) (mOp (fI (fun _ j => 0 < j) fun i j => .int (i % j)) (mOp fAdd (mOp fMul (mOp fIxY (mName 0) (mC (.int 1))) (mC (.int 48271))) (mC (.int 11))) (mC (.int 2147483647))))
  (mSeq (mIfS (mBl (mOp (fI0 fun i j => .bl (decide (j < i))) (mOp fIxY (mName 0) (mC (.int 0))) (mC (.int 0)))) (mSeq (mAsg 2 (mOp (fI (fun _ j => 0 < j) fun i j => .int (i % j)) (mOp fIxY (mName 0) (mC (.int 0))) (mName 1)))
  (mSeq (mAsgS (mName 0) (mC (.int 0)) (mOp (fI CDiv fun i j => .int (i / j)) (mOp fIxY (mName 0) (mC (.int 0))) (mName 1)))
  (mRet (mName 2)))) mNext)
  (mSeq (mAsg 3 (mOp (fI (fun _ j => 0 < j) fun i j => .int (i % j)) (mOp fMul (mOp fIxY (mName 0) (mC (.int 1))) (mOp fAdd (mOp (fI CDiv fun i j => .int (i / j)) (mOp fIxY (mName 0) (mC (.int 1))) (mC (.int 1009))) (mC (.int 69621)))) (mC (.int 2147483647))))
  (mRet (mOp (fI (fun _ j => 0 < j) fun i j => .int (i % j)) (mOp (fI (fun _ j => 0 < j) fun i j => .int (i % j)) (mOp fMul (mName 3) (mOp fAdd (mOp (fI CDiv fun i j => .int (i / j)) (mName 3) (mC (.int 757))) (mC (.int 16807)))) (mC (.int 2147483629))) (mName 1))))))
noncomputable def m_l_next : Mf := mFn 2 4 b_l_next
theorem ok_l_next {P : Program} {w : World} {K : PySem.W.Frag} {mg : Str → Option Value} {base : Heap} (T : Tx K mg) : FnOk P w K mg base CX0 1 T.a_l_next T.d_l_next ["_law_draw_here", "_law_size"] (spM K (ctT T) m_l_next) :=
  T.F_l_next.ok sc_l_next (fun vs H Q E h => sp_len h) (fun cdv A outer s H vs Q E hr h => ⟨_, (pss_cons (ps_asg (pe_op op_mod (pe_op (op_addZ (K := K) rfl) (pe_op op_mulZ (pe_ix (ix_Y (K := K) rfl (hu_of hr)) (pv 0) pe_int (fun _ _ => rfl)) pe_int) pe_int) pe_int) (pg_sub (pv 0) pe_int (set_Y (hu_of hr))))
      (pss_cons (ps_if (pt_cmpR op_gt (pe_ix (ix_Y (K := K) rfl (hu_of hr)) (pv 0) pe_int (fun _ _ => rfl)) pe_int (nomark _)) (pss_cons (ps_set (i := 2) sc_l_next.nd rfl (by first | exact Or.inl rfl | exact Or.inr rfl) (pe_op op_mod (pe_ix (ix_Y (K := K) rfl (hu_of hr)) (pv 0) pe_int (fun _ _ => rfl)) (pv 1)))
      (pss_cons (ps_asg (pe_op op_fdiv (pe_ix (ix_Y (K := K) rfl (hu_of hr)) (pv 0) pe_int (fun _ _ => rfl)) (pv 1)) (pg_sub (pv 0) pe_int (set_Y (hu_of hr))))
      (pss_one (ps_ret (pv 2))))) pss_nil)
      (pss_cons (ps_set (i := 3) sc_l_next.nd rfl (by first | exact Or.inl rfl | exact Or.inr rfl) (pe_op op_mod (pe_op op_mulZ (pe_ix (ix_Y (K := K) rfl (hu_of hr)) (pv 0) pe_int (fun _ _ => rfl)) (pe_op (op_addZ (K := K) rfl) (pe_op op_fdiv (pe_ix (ix_Y (K := K) rfl (hu_of hr)) (pv 0) pe_int (fun _ _ => rfl)) pe_int) pe_int)) pe_int))
      (pss_one (ps_ret (pe_op op_mod (pe_op op_mod (pe_op op_mulZ (pv 3) (pe_op (op_addZ (K := K) rfl) (pe_op op_fdiv (pv 3) pe_int) pe_int)) pe_int) (pv 1))))))),
    fn_run (np := 2) (N := ["_law_draw_here", "_law_size", "_law_digit", "_law_number"]) (body := b_l_next) (by unfold b_l_next; exact (sv_seq (sv_asgS (ei_op (j_I fun _ _ => cr_int) (ei_op j_add (ei_op j_mul (ei_op j_ixY ei_var (ei_c cr_int)) (ei_c cr_int)) (ei_c cr_int)) (ei_c cr_int)) ei_var (ei_c cr_int))
      (sv_seq (sv_if (et_tst (ei_op (j_I0 fun _ _ => cr_bl) (ei_op j_ixY ei_var (ei_c cr_int)) (ei_c cr_int))) (sv_seq (sv_asg (ei_op (j_I fun _ _ => cr_int) (ei_op j_ixY ei_var (ei_c cr_int)) ei_var))
      (sv_seq (sv_asgS (ei_op (j_I fun _ _ => cr_int) (ei_op j_ixY ei_var (ei_c cr_int)) ei_var) ei_var (ei_c cr_int))
      (sv_ret ei_var))) sv_next)
      (sv_seq (sv_asg (ei_op (j_I fun _ _ => cr_int) (ei_op j_mul (ei_op j_ixY ei_var (ei_c cr_int)) (ei_op j_add (ei_op (j_I fun _ _ => cr_int) (ei_op j_ixY ei_var (ei_c cr_int)) (ei_c cr_int)) (ei_c cr_int))) (ei_c cr_int)))
      (sv_ret (ei_op (j_I fun _ _ => cr_int) (ei_op (j_I fun _ _ => cr_int) (ei_op j_mul ei_var (ei_op j_add (ei_op (j_I fun _ _ => cr_int) ei_var (ei_c cr_int)) (ei_c cr_int))) (ei_c cr_int)) ei_var)))))) h⟩)
@[irreducible] noncomputable def b_l_lengths : Ms :=
  (mSeq (mAsg 1 (mLc [3] (mRng1 (aCons (mC (.int 33)) aNil)) (tgN 3) mYes (mC (.int 0))))
  (mSeq (mFor (mRng1 (aCons (mOp fAdd (mC (.int 1)) (mCallN m_l_next (vCons (mName 0) (vCons (mC (.int 33)) vNil)))) aNil)) (tgN 2) (mSeq (mAsg 3 (mOp fIxY (mLst (vCons (mC (.int 32)) (vCons (mCallN m_l_next (vCons (mName 0) (vCons (mC (.int 33)) vNil))) vNil))) (mCB fInt (aCons (mOp (fI0 fun i j => .bl (decide (j < i))) (mCallN m_l_next (vCons (mName 0) (vCons (mC (.int 4)) vNil))) (mC (.int 0))) aNil))))
  (mSeq (mAsg 4 (mOp fIxY (mLst (vCons (mOp fAdd (mC (.int 1)) (mCallN m_l_next (vCons (mName 0) (vCons (mC (.int 15)) vNil)))) (vCons (mOp fAdd (mC (.int 2)) (mCallN m_l_next (vCons (mName 0) (vCons (mC (.int 4)) vNil)))) vNil))) (mCallN m_l_next (vCons (mName 0) (vCons (mC (.int 2)) vNil)))))
  (mIfS (mAnd (mBl (mOp fEq (mOp fIxY (mName 1) (mName 3)) (mC (.int 0)))) (mBl (mOp (fI0 fun i j => .bl (decide (i ≤ j))) (mOp fAdd (mCallB m_l_room (aCons (mName 1) aNil)) (mOp (fI (fun _ j => 0 ≤ j) fun i j => .int (i / 2 ^ j.toNat)) (mC (.int 32768)) (mName 4))) (mC (.int 32768))))) (mAsgS (mName 1) (mName 3) (mName 4)) mNext))))
  (mSeq (mIfS (mBl (mOp fEq (mCB (fInts gMax) (aCons (mSl (mName 1) oNo (oSm (mC (.int 32)))) aNil)) (mC (.int 0)))) (mSeq (mAsgS (mName 1) (mCallN m_l_next (vCons (mName 0) (vCons (mC (.int 32)) vNil))) (mOp fAdd (mC (.int 1)) (mCallN m_l_next (vCons (mName 0) (vCons (mC (.int 15)) vNil)))))
  (mIfS (mBl (mOp (fI0 fun i j => .bl (decide (j < i))) (mCallB m_l_room (aCons (mName 1) aNil)) (mC (.int 32768)))) (mAsgS (mName 1) (mC (.int 32)) (mC (.int 0))) mNext)) mNext)
  (mRet (mName 1)))))
noncomputable def m_l_lengths : Mf := mFn 1 5 b_l_lengths
theorem ok_l_lengths {P : Program} {w : World} {K : PySem.W.Frag} {mg : Str → Option Value} {base : Heap} (T : Tx K mg) : FnOk P w K mg base CX0 2 T.a_l_lengths T.d_l_lengths ["_law_draw_here"] (spM K (ctT T) m_l_lengths) :=
  T.F_l_lengths.ok sc_l_lengths (fun vs H Q E h => sp_len h) (fun cdv A outer s H vs Q E hr h => ⟨_, (pss_cons (ps_setLc (i := 1) (own := [("_law_symbol", 3)]) rfl sc_l_lengths.nd rfl rfl (sw_true rfl rfl rfl (by decide +kernel)) (pi_range1 rfl T.z_range (pa_cons pe_int pa_nil)) (blkOk_by (N := ["_law_draw_here", "_law_lengths_here", "_law_k", "_law_symbol", "_law_length"]) (sc := defScope s_l_lengths) (by decide +kernel)) (fun _ _ _ _ _ => (pg_name (i := 3) sc_l_lengths.nd rfl (by first | exact Or.inl rfl | exact Or.inr rfl))) (fun _ _ _ _ _ => pts_nil) (fun _ _ _ _ _ => pe_int))
      (pss_cons (ps_for PassesOwn.never rfl (pi_range1 rfl T.z_range (pa_cons (pe_op (op_addZ (K := K) rfl) pe_int (pe_callZ (ok_l_next T) (hr.mono (by decide)) (by rfl) T.g_l_next T.F_l_next.kp T.b_l_next pass0 (pa_cons (pv 0) (pa_cons pe_int pa_nil)))) pa_nil)) (pg_name (i := 2) sc_l_lengths.nd rfl (by first | exact Or.inl rfl | exact Or.inr rfl)) (pss_cons (ps_set (i := 3) sc_l_lengths.nd rfl (by first | exact Or.inl rfl | exact Or.inr rfl) (pe_ix (ix_Y (K := K) rfl (hu_of hr)) (pe_lst (pa_cons pe_int (pa_cons (pe_callZ (ok_l_next T) (hr.mono (by decide)) (by rfl) T.g_l_next T.F_l_next.kp T.b_l_next pass0 (pa_cons (pv 0) (pa_cons pe_int pa_nil))) pa_nil))) (pe_callTy (call_intY) (by rfl) T.z_int (by decide +kernel) (pa_cons (pe_cmpR op_gt (pe_callZ (ok_l_next T) (hr.mono (by decide)) (by rfl) T.g_l_next T.F_l_next.kp T.b_l_next pass0 (pa_cons (pv 0) (pa_cons pe_int pa_nil))) pe_int (nomark _)) pa_nil)) (fun _ _ => rfl)))
      (pss_cons (ps_set (i := 4) sc_l_lengths.nd rfl (by first | exact Or.inl rfl | exact Or.inr rfl) (pe_ix (ix_Y (K := K) rfl (hu_of hr)) (pe_lst (pa_cons (pe_op (op_addZ (K := K) rfl) pe_int (pe_callZ (ok_l_next T) (hr.mono (by decide)) (by rfl) T.g_l_next T.F_l_next.kp T.b_l_next pass0 (pa_cons (pv 0) (pa_cons pe_int pa_nil)))) (pa_cons (pe_op (op_addZ (K := K) rfl) pe_int (pe_callZ (ok_l_next T) (hr.mono (by decide)) (by rfl) T.g_l_next T.F_l_next.kp T.b_l_next pass0 (pa_cons (pv 0) (pa_cons pe_int pa_nil)))) pa_nil))) (pe_callZ (ok_l_next T) (hr.mono (by decide)) (by rfl) T.g_l_next T.F_l_next.kp T.b_l_next pass0 (pa_cons (pv 0) (pa_cons pe_int pa_nil))) (fun _ _ => rfl)))
      (pss_one (ps_if (PW.pt (pw_and (pt_cmpR (op_eqZ (K := K) rfl hr.units) (pe_ix (ix_Y (K := K) rfl (hu_of hr)) (pv 1) (pv 3) (fun _ _ => rfl)) pe_int (nomark _)) (pw_and1 (pt_cmpR op_le (pe_op (op_addZ (K := K) rfl) (pe_callZ (ok_l_room T) (hr.mono (by decide)) (by rfl) T.g_l_room T.F_l_room.kp T.b_l_room pass0 (pa_cons (pv 1) pa_nil)) (pe_op op_shr pe_int (pv 4))) pe_int (nomark _))))) (pss_one (ps_asg (pv 4) (pg_sub (pv 1) (pv 3) (set_Y (hu_of hr))))) pss_nil)))))
      (pss_cons (ps_if (pt_cmpR (op_eqZ (K := K) rfl hr.units) (pe_callB (cr_maxZ (K := K) rfl rfl) (by rfl) T.z_max (by decide +kernel) (pa_cons (pe_slice (sl_Z (K := K) rfl) (pv 1) po_none (po_some pe_int)) pa_nil)) pe_int (nomark _)) (pss_cons (ps_asg (pe_op (op_addZ (K := K) rfl) pe_int (pe_callZ (ok_l_next T) (hr.mono (by decide)) (by rfl) T.g_l_next T.F_l_next.kp T.b_l_next pass0 (pa_cons (pv 0) (pa_cons pe_int pa_nil)))) (pg_sub (pv 1) (pe_callZ (ok_l_next T) (hr.mono (by decide)) (by rfl) T.g_l_next T.F_l_next.kp T.b_l_next pass0 (pa_cons (pv 0) (pa_cons pe_int pa_nil))) (set_Y (hu_of hr))))
      (pss_one (ps_if (pt_cmpR op_gt (pe_callZ (ok_l_room T) (hr.mono (by decide)) (by rfl) T.g_l_room T.F_l_room.kp T.b_l_room pass0 (pa_cons (pv 1) pa_nil)) pe_int (nomark _)) (pss_one (ps_asg pe_int (pg_sub (pv 1) pe_int (set_Y (hu_of hr))))) pss_nil))) pss_nil)
      (pss_one (ps_ret (pv 1)))))),
    fn_run (np := 1) (N := ["_law_draw_here", "_law_lengths_here", "_law_k", "_law_symbol", "_law_length"]) (body := b_l_lengths) (by unfold b_l_lengths; exact (sv_seq (sv_asg (ei_lc (ws := [3]) (jw_rng1 (ea_cons (ei_c cr_int) ea_nil)) sg_name (by decide) et_yes (ei_c cr_int)))
      (sv_seq (sv_for (jw_rng1 (ea_cons (ei_op j_add (ei_c cr_int) (ei_callN (ev_cons ei_var (ev_cons (ei_c cr_int) ev_nil)))) ea_nil)) sg_name (sv_seq (sv_asg (ei_op j_ixY (ei_lst (ev_cons (ei_c cr_int) (ev_cons (ei_callN (ev_cons ei_var (ev_cons (ei_c cr_int) ev_nil))) ev_nil))) (ei_cb jb_int (ea_cons (ei_op (j_I0 fun _ _ => cr_bl) (ei_callN (ev_cons ei_var (ev_cons (ei_c cr_int) ev_nil))) (ei_c cr_int)) ea_nil))))
      (sv_seq (sv_asg (ei_op j_ixY (ei_lst (ev_cons (ei_op j_add (ei_c cr_int) (ei_callN (ev_cons ei_var (ev_cons (ei_c cr_int) ev_nil)))) (ev_cons (ei_op j_add (ei_c cr_int) (ei_callN (ev_cons ei_var (ev_cons (ei_c cr_int) ev_nil)))) ev_nil))) (ei_callN (ev_cons ei_var (ev_cons (ei_c cr_int) ev_nil)))))
      (sv_if (et_and (et_tst (ei_op j_eq (ei_op j_ixY ei_var ei_var) (ei_c cr_int))) (et_tst (ei_op (j_I0 fun _ _ => cr_bl) (ei_op j_add (ei_callB (ea_cons ei_var ea_nil)) (ei_op (j_I fun _ _ => cr_int) (ei_c cr_int) ei_var)) (ei_c cr_int)))) (sv_asgS ei_var ei_var ei_var) sv_next))))
      (sv_seq (sv_if (et_tst (ei_op j_eq (ei_cb jb_max (ea_cons (ei_sl ei_var eo_no (eo_sm (ei_c cr_int))) ea_nil)) (ei_c cr_int))) (sv_seq (sv_asgS (ei_op j_add (ei_c cr_int) (ei_callN (ev_cons ei_var (ev_cons (ei_c cr_int) ev_nil)))) ei_var (ei_callN (ev_cons ei_var (ev_cons (ei_c cr_int) ev_nil))))
      (sv_if (et_tst (ei_op (j_I0 fun _ _ => cr_bl) (ei_callB (ea_cons ei_var ea_nil)) (ei_c cr_int))) (sv_asgS (ei_c cr_int) ei_var (ei_c cr_int)) sv_next)) sv_next)
      (sv_ret ei_var))))) h⟩)
@[irreducible] noncomputable def b_l_overfull : Ms :=
  (mSeq (mAsg 1 (mLc [3] (mRng1 (aCons (mC (.int 33)) aNil)) (tgN 3) mYes (mC (.int 0))))
  (mSeq (mAsg 2 (mCallN m_l_next (vCons (mName 0) (vCons (mC (.int 20)) vNil))))
  (mSeq (mAsgS (mName 1) (mName 2) (mC (.int 1)))
  (mSeq (mAsgS (mName 1) (mOp fAdd (mOp fAdd (mName 2) (mC (.int 1))) (mCallN m_l_next (vCons (mName 0) (vCons (mC (.int 10)) vNil)))) (mC (.int 1)))
  (mSeq (mAsgS (mName 1) (mOp fAdd (mC (.int 31)) (mCallN m_l_next (vCons (mName 0) (vCons (mC (.int 2)) vNil)))) (mOp fAdd (mC (.int 2)) (mCallN m_l_next (vCons (mName 0) (vCons (mC (.int 14)) vNil)))))
  (mRet (mName 1)))))))
noncomputable def m_l_overfull : Mf := mFn 1 4 b_l_overfull
theorem ok_l_overfull {P : Program} {w : World} {K : PySem.W.Frag} {mg : Str → Option Value} {base : Heap} (T : Tx K mg) : FnOk P w K mg base CX0 2 T.a_l_overfull T.d_l_overfull ["_law_draw_here"] (spM K (ctT T) m_l_overfull) :=
  T.F_l_overfull.ok sc_l_overfull (fun vs H Q E h => sp_len h) (fun cdv A outer s H vs Q E hr h => ⟨_, (pss_cons (ps_setLc (i := 1) (own := [("_law_symbol", 3)]) rfl sc_l_overfull.nd rfl rfl (sw_true rfl rfl rfl (by decide +kernel)) (pi_range1 rfl T.z_range (pa_cons pe_int pa_nil)) (blkOk_by (N := ["_law_draw_here", "_law_lengths_here", "_law_first", "_law_symbol"]) (sc := defScope s_l_overfull) (by decide +kernel)) (fun _ _ _ _ _ => (pg_name (i := 3) sc_l_overfull.nd rfl (by first | exact Or.inl rfl | exact Or.inr rfl))) (fun _ _ _ _ _ => pts_nil) (fun _ _ _ _ _ => pe_int))
      (pss_cons (ps_set (i := 2) sc_l_overfull.nd rfl (by first | exact Or.inl rfl | exact Or.inr rfl) (pe_callZ (ok_l_next T) (hr.mono (by decide)) (by rfl) T.g_l_next T.F_l_next.kp T.b_l_next pass0 (pa_cons (pv 0) (pa_cons pe_int pa_nil))))
      (pss_cons (ps_asg pe_int (pg_sub (pv 1) (pv 2) (set_Y (hu_of hr))))
      (pss_cons (ps_asg pe_int (pg_sub (pv 1) (pe_op (op_addZ (K := K) rfl) (pe_op (op_addZ (K := K) rfl) (pv 2) pe_int) (pe_callZ (ok_l_next T) (hr.mono (by decide)) (by rfl) T.g_l_next T.F_l_next.kp T.b_l_next pass0 (pa_cons (pv 0) (pa_cons pe_int pa_nil)))) (set_Y (hu_of hr))))
      (pss_cons (ps_asg (pe_op (op_addZ (K := K) rfl) pe_int (pe_callZ (ok_l_next T) (hr.mono (by decide)) (by rfl) T.g_l_next T.F_l_next.kp T.b_l_next pass0 (pa_cons (pv 0) (pa_cons pe_int pa_nil)))) (pg_sub (pv 1) (pe_op (op_addZ (K := K) rfl) pe_int (pe_callZ (ok_l_next T) (hr.mono (by decide)) (by rfl) T.g_l_next T.F_l_next.kp T.b_l_next pass0 (pa_cons (pv 0) (pa_cons pe_int pa_nil)))) (set_Y (hu_of hr))))
      (pss_one (ps_ret (pv 1)))))))),
    fn_run (np := 1) (N := ["_law_draw_here", "_law_lengths_here", "_law_first", "_law_symbol"]) (body := b_l_overfull) (by unfold b_l_overfull; exact (sv_seq (sv_asg (ei_lc (ws := [3]) (jw_rng1 (ea_cons (ei_c cr_int) ea_nil)) sg_name (by decide) et_yes (ei_c cr_int)))
      (sv_seq (sv_asg (ei_callN (ev_cons ei_var (ev_cons (ei_c cr_int) ev_nil))))
      (sv_seq (sv_asgS (ei_c cr_int) ei_var ei_var)
      (sv_seq (sv_asgS (ei_c cr_int) ei_var (ei_op j_add (ei_op j_add ei_var (ei_c cr_int)) (ei_callN (ev_cons ei_var (ev_cons (ei_c cr_int) ev_nil)))))
      (sv_seq (sv_asgS (ei_op j_add (ei_c cr_int) (ei_callN (ev_cons ei_var (ev_cons (ei_c cr_int) ev_nil)))) ei_var (ei_op j_add (ei_c cr_int) (ei_callN (ev_cons ei_var (ev_cons (ei_c cr_int) ev_nil)))))
      (sv_ret ei_var))))))) h⟩)
@[irreducible] noncomputable def b_l_body : Ms :=
  (mSeq (mAsg 3 (mCallN m_l_lengths (vCons (mName 0) vNil)))
  (mSeq (mIfS (mBl (mOp fEq (mName 2) (mC (.int 13)))) (mAsg 3 (mCallN m_l_overfull (vCons (mName 0) vNil))) mNext)
  (mSeq (mAsg 4 (mCallN m_l_words (vCons (mName 3) vNil)))
  (mSeq (mIfS (mBl (mOp fEq (mName 2) (mC (.int 13)))) (mAsg 4 (mCB fDict (aCons (mLcD .items 4 [10, 11] (tgT 2 (tgCons (tgN 10) (tgCons (tgN 11) tgNil))) (mBl (mOp fEq (mCB fLen (aCons (mName 11) aNil)) (mC (.int 1)))) (mTup (vCons (mName 10) (vCons (mName 11) vNil)))) aNil))) mNext)
  (mSeq (mAsg 5 (mCB fSort (aCons (mLcD .keys 4 [10] (tgN 10) (mBl (mOp (fI0 fun i j => .bl (decide (i < j))) (mName 10) (mC (.int 32)))) (mName 10)) aNil)))
  (mSeq (mAsg 6 (mC (.int 0)))
  (mSeq (mAsg 7 (mJoin (mC (.str (Str.ofString ""))) (mLc [12] (mWL (mName 3)) (tgN 12) mYes (mCallN m_l_bits (vCons (mName 12) (vCons (mC (.int 4)) vNil))))))
  (mSeq (mAsg 7 (mOp fAdd (mName 7) (mCallN m_l_bits (vCons (mOp fMul (mCB fInt (aCons (mOp fEq (mName 2) (mC (.int 12))) aNil)) (mOp fAdd (mC (.int 1)) (mCallN m_l_next (vCons (mName 0) (vCons (mC (.int 15)) vNil))))) (vCons (mC (.int 4)) vNil)))))
  (mSeq (mWh (mBl (mOp (fI0 fun i j => .bl (decide (i < j))) (mName 6) (mName 1))) (mIfS (mAnd (mBl (mOp fIn (mC (.int 32)) (mName 4))) (mAnd (mBl (mOp (fI0 fun i j => .bl (decide (j < i))) (mName 6) (mC (.int 0)))) (mBl (mOp fEq (mCallN m_l_next (vCons (mName 0) (vCons (mC (.int 2)) vNil))) (mC (.int 0)))))) (mSeq (mAsg 8 (mOp fAdd (mC (.int 1)) (mCallN m_l_next (vCons (mName 0) (vCons (mCB (fI2 min) (aCons (mC (.int 16)) (aCons (mOp (fI0 fun i j => .int (i - j)) (mName 1) (mName 6)) aNil))) vNil)))))
  (mSeq (mAsg 9 (mOp fAdd (mC (.int 1)) (mCallN m_l_next (vCons (mName 0) (vCons (mCB (fI2 min) (aCons (mC (.int 256)) (aCons (mName 6) aNil))) vNil)))))
  (mSeq (mIfS (mAnd (mBl (mOp fEq (mName 2) (mC (.int 1)))) (mBl (mOp fEq (mCallN m_l_next (vCons (mName 0) (vCons (mC (.int 3)) vNil))) (mC (.int 0))))) (mAsg 9 (mCB (fI2 min) (aCons (mC (.int 256)) (aCons (mOp fAdd (mName 6) (mC (.int 1))) aNil)))) mNext)
  (mSeq (mIfS (mAnd (mBl (mOp fEq (mName 2) (mC (.int 2)))) (mBl (mOp fEq (mCallN m_l_next (vCons (mName 0) (vCons (mC (.int 3)) vNil))) (mC (.int 0))))) (mAsg 8 (mCB (fI2 min) (aCons (mC (.int 16)) (aCons (mOp fAdd (mOp (fI0 fun i j => .int (i - j)) (mName 1) (mName 6)) (mC (.int 1))) aNil)))) mNext)
  (mSeq (mAsg 7 (mOp fAdd (mOp fAdd (mOp fAdd (mName 7) (mOp fIxY (mName 4) (mC (.int 32)))) (mCallN m_l_bits (vCons (mOp (fI0 fun i j => .int (i - j)) (mName 9) (mC (.int 1))) (vCons (mC (.int 8)) vNil)))) (mCallN m_l_bits (vCons (mOp (fI0 fun i j => .int (i - j)) (mName 8) (mC (.int 1))) (vCons (mC (.int 4)) vNil)))))
  (mAsg 6 (mOp fAdd (mName 6) (mName 8)))))))) (mSeq (mAsg 10 (mOp fIxY (mName 5) (mCallN m_l_next (vCons (mName 0) (vCons (mCB fLen (aCons (mName 5) aNil)) vNil)))))
  (mSeq (mAsg 7 (mOp fAdd (mOp fAdd (mName 7) (mOp fIxY (mName 4) (mName 10))) (mCallN m_l_bits (vCons (mCallN m_l_next (vCons (mName 0) (vCons (mC (.int 8)) vNil))) (vCons (mC (.int 3)) vNil)))))
  (mAsg 6 (mOp fAdd (mName 6) (mC (.int 1))))))))
  (mSeq (mIfS (mBl (mOp fEq (mName 2) (mC (.int 3)))) (mAsg 7 (mOp fAdd (mName 7) (mC (.str (Str.ofString "1"))))) mNext)
  (mRet (mCallN m_l_bytes (vCons (mName 7) vNil)))))))))))))
noncomputable def m_l_body : Mf := mFn 3 13 b_l_body
theorem ok_l_body {P : Program} {w : World} {K : PySem.W.Frag} {mg : Str → Option Value} {base : Heap} (T : Tx K mg) : FnOk P w K mg base CX0 3 T.a_l_body T.d_l_body ["_law_draw_here", "_law_many", "_law_spoilt"] (spM K (ctT T) m_l_body) :=
  T.F_l_body.ok sc_l_body (fun vs H Q E h => sp_len h) (fun cdv A outer s H vs Q E hr h => ⟨_, (pss_cons (ps_set (i := 3) sc_l_body.nd rfl (by first | exact Or.inl rfl | exact Or.inr rfl) (pe_callZ (ok_l_lengths T) (hr.mono (by decide)) (by rfl) T.g_l_lengths T.F_l_lengths.kp T.b_l_lengths pass0 (pa_cons (pv 0) pa_nil)))
      (pss_cons (ps_if (pt_cmpR (op_eqZ (K := K) rfl hr.units) (pv 2) pe_int (nomark _)) (pss_one (ps_set (i := 3) sc_l_body.nd rfl (by first | exact Or.inl rfl | exact Or.inr rfl) (pe_callZ (ok_l_overfull T) (hr.mono (by decide)) (by rfl) T.g_l_overfull T.F_l_overfull.kp T.b_l_overfull pass0 (pa_cons (pv 0) pa_nil)))) pss_nil)
      (pss_cons (ps_set (i := 4) sc_l_body.nd rfl (by first | exact Or.inl rfl | exact Or.inr rfl) (pe_callZ (ok_l_words T) (hr.mono (by decide)) (by rfl) T.g_l_words T.F_l_words.kp T.b_l_words pass0 (pa_cons (pv 3) pa_nil)))
      (pss_cons (ps_if (pt_cmpR (op_eqZ (K := K) rfl hr.units) (pv 2) pe_int (nomark _)) (pss_one (ps_set (i := 4) sc_l_body.nd rfl (by first | exact Or.inl rfl | exact Or.inr rfl) (pe_callTy (call_dictY (K := K) rfl rfl) (by rfl) T.z_dict (by decide +kernel) (pa_cons (pe_lock (pe_lc (own := [("_law_symbol", 10), ("_law_word", 11)]) rfl sc_l_body.nd (pi_items (pv 4)) (blkOk_by (N := ["_law_draw_here", "_law_many", "_law_spoilt", "_law_lengths_here", "_law_words_here", "_law_known", "_law_made", "_law_bits_here", "_law_size", "_law_far", "_law_symbol", "_law_word", "_law_length"]) (sc := defScope s_l_body) (by decide +kernel)) (fun _ _ _ _ _ => (pg_tupZ (K := K) (n := 2) rfl rfl (pgs_cons (pg_name (i := 10) sc_l_body.nd rfl (by first | exact Or.inl rfl | exact Or.inr rfl)) (pgs_cons (pg_name (i := 11) sc_l_body.nd rfl (by first | exact Or.inl rfl | exact Or.inr rfl)) pgs_nil)))) (fun _ _ _ _ _ => (pts_one (pt_cmpR (op_eqZ (K := K) rfl hr.units) (pe_callB (call_lenY (K := K) rfl) (by rfl) T.z_len PySem.boot_len (pa_cons (pv 11) pa_nil)) pe_int (nomark _)))) (fun _ _ _ _ _ => (pe_tup (pa_cons (pv 10) (pa_cons (pv 11) pa_nil)))))) pa_nil)))) pss_nil)
      (pss_cons (ps_set (i := 5) sc_l_body.nd rfl (by first | exact Or.inl rfl | exact Or.inr rfl) (pe_callB (cr_sortY (K := K) rfl (u66 hr)) (by rfl) T.z_sorted (by decide +kernel) (pa_cons (pe_lock (pe_lc (own := [("_law_symbol", 10)]) rfl sc_l_body.nd (pi_keys (pv 4)) (blkOk_by (N := ["_law_draw_here", "_law_many", "_law_spoilt", "_law_lengths_here", "_law_words_here", "_law_known", "_law_made", "_law_bits_here", "_law_size", "_law_far", "_law_symbol", "_law_word", "_law_length"]) (sc := defScope s_l_body) (by decide +kernel)) (fun _ _ _ _ _ => (pg_name (i := 10) sc_l_body.nd rfl (by first | exact Or.inl rfl | exact Or.inr rfl))) (fun _ _ _ _ _ => (pts_one (pt_cmpR op_lt (pv 10) pe_int (nomark _)))) (fun _ _ _ _ _ => (pv 10)))) pa_nil)))
      (pss_cons (ps_set (i := 6) sc_l_body.nd rfl (by first | exact Or.inl rfl | exact Or.inr rfl) pe_int)
      (pss_cons (ps_set (i := 7) sc_l_body.nd rfl (by first | exact Or.inl rfl | exact Or.inr rfl) (pe_joinY (K := K) rfl pe_str (pe_lc (own := [("_law_length", 12)]) rfl sc_l_body.nd (pi_listZ (K := K) rfl (pv 3)) (blkOk_by (N := ["_law_draw_here", "_law_many", "_law_spoilt", "_law_lengths_here", "_law_words_here", "_law_known", "_law_made", "_law_bits_here", "_law_size", "_law_far", "_law_symbol", "_law_word", "_law_length"]) (sc := defScope s_l_body) (by decide +kernel)) (fun _ _ _ _ _ => (pg_name (i := 12) sc_l_body.nd rfl (by first | exact Or.inl rfl | exact Or.inr rfl))) (fun _ _ _ _ _ => pts_nil) (fun _ _ _ _ _ => (pe_callZ (ok_l_bits T) (hr.mono (by decide)) (by rfl) T.g_l_bits T.F_l_bits.kp T.b_l_bits pass0 (pa_cons (pv 12) (pa_cons pe_int pa_nil)))))))
      (pss_cons (ps_set (i := 7) sc_l_body.nd rfl (by first | exact Or.inl rfl | exact Or.inr rfl) (pe_op (op_addZ (K := K) rfl) (pv 7) (pe_callZ (ok_l_bits T) (hr.mono (by decide)) (by rfl) T.g_l_bits T.F_l_bits.kp T.b_l_bits pass0 (pa_cons (pe_op op_mulZ (pe_callTy (call_intY) (by rfl) T.z_int (by decide +kernel) (pa_cons (pe_cmpR (op_eqZ (K := K) rfl hr.units) (pv 2) pe_int (nomark _)) pa_nil)) (pe_op (op_addZ (K := K) rfl) pe_int (pe_callZ (ok_l_next T) (hr.mono (by decide)) (by rfl) T.g_l_next T.F_l_next.kp T.b_l_next pass0 (pa_cons (pv 0) (pa_cons pe_int pa_nil))))) (pa_cons pe_int pa_nil)))))
      (pss_cons (ps_while PassesOwn.never (pt_cmpR op_lt (pv 6) (pv 1) (nomark _)) (pss_one (ps_if (PW.pt (pw_and (pt_cmpR (op_inY (K := K) rfl (u65 hr)) pe_int (pv 4) (by rfl)) (pw_and (pt_cmpR op_gt (pv 6) pe_int (nomark _)) (pw_and1 (pt_cmpR (op_eqZ (K := K) rfl hr.units) (pe_callZ (ok_l_next T) (hr.mono (by decide)) (by rfl) T.g_l_next T.F_l_next.kp T.b_l_next pass0 (pa_cons (pv 0) (pa_cons pe_int pa_nil))) pe_int (nomark _)))))) (pss_cons (ps_set (i := 8) sc_l_body.nd rfl (by first | exact Or.inl rfl | exact Or.inr rfl) (pe_op (op_addZ (K := K) rfl) pe_int (pe_callZ (ok_l_next T) (hr.mono (by decide)) (by rfl) T.g_l_next T.F_l_next.kp T.b_l_next pass0 (pa_cons (pv 0) (pa_cons (pe_callB (call_min2Z rfl) (by rfl) T.z_min (by decide +kernel) (pa_cons pe_int (pa_cons (pe_op op_sub (pv 1) (pv 6)) pa_nil))) pa_nil)))))
      (pss_cons (ps_set (i := 9) sc_l_body.nd rfl (by first | exact Or.inl rfl | exact Or.inr rfl) (pe_op (op_addZ (K := K) rfl) pe_int (pe_callZ (ok_l_next T) (hr.mono (by decide)) (by rfl) T.g_l_next T.F_l_next.kp T.b_l_next pass0 (pa_cons (pv 0) (pa_cons (pe_callB (call_min2Z rfl) (by rfl) T.z_min (by decide +kernel) (pa_cons pe_int (pa_cons (pv 6) pa_nil))) pa_nil)))))
      (pss_cons (ps_if (PW.pt (pw_and (pt_cmpR (op_eqZ (K := K) rfl hr.units) (pv 2) pe_int (nomark _)) (pw_and1 (pt_cmpR (op_eqZ (K := K) rfl hr.units) (pe_callZ (ok_l_next T) (hr.mono (by decide)) (by rfl) T.g_l_next T.F_l_next.kp T.b_l_next pass0 (pa_cons (pv 0) (pa_cons pe_int pa_nil))) pe_int (nomark _))))) (pss_one (ps_set (i := 9) sc_l_body.nd rfl (by first | exact Or.inl rfl | exact Or.inr rfl) (pe_callB (call_min2Z rfl) (by rfl) T.z_min (by decide +kernel) (pa_cons pe_int (pa_cons (pe_op (op_addZ (K := K) rfl) (pv 6) pe_int) pa_nil))))) pss_nil)
      (pss_cons (ps_if (PW.pt (pw_and (pt_cmpR (op_eqZ (K := K) rfl hr.units) (pv 2) pe_int (nomark _)) (pw_and1 (pt_cmpR (op_eqZ (K := K) rfl hr.units) (pe_callZ (ok_l_next T) (hr.mono (by decide)) (by rfl) T.g_l_next T.F_l_next.kp T.b_l_next pass0 (pa_cons (pv 0) (pa_cons pe_int pa_nil))) pe_int (nomark _))))) (pss_one (ps_set (i := 8) sc_l_body.nd rfl (by first | exact Or.inl rfl | exact Or.inr rfl) (pe_callB (call_min2Z rfl) (by rfl) T.z_min (by decide +kernel) (pa_cons pe_int (pa_cons (pe_op (op_addZ (K := K) rfl) (pe_op op_sub (pv 1) (pv 6)) pe_int) pa_nil))))) pss_nil)
      (pss_cons (ps_set (i := 7) sc_l_body.nd rfl (by first | exact Or.inl rfl | exact Or.inr rfl) (pe_op (op_addZ (K := K) rfl) (pe_op (op_addZ (K := K) rfl) (pe_op (op_addZ (K := K) rfl) (pv 7) (pe_ix (ix_Y (K := K) rfl (hu_of hr)) (pv 4) pe_int (fun _ _ => rfl))) (pe_callZ (ok_l_bits T) (hr.mono (by decide)) (by rfl) T.g_l_bits T.F_l_bits.kp T.b_l_bits pass0 (pa_cons (pe_op op_sub (pv 9) pe_int) (pa_cons pe_int pa_nil)))) (pe_callZ (ok_l_bits T) (hr.mono (by decide)) (by rfl) T.g_l_bits T.F_l_bits.kp T.b_l_bits pass0 (pa_cons (pe_op op_sub (pv 8) pe_int) (pa_cons pe_int pa_nil)))))
      (pss_one (ps_set (i := 6) sc_l_body.nd rfl (by first | exact Or.inl rfl | exact Or.inr rfl) (pe_op (op_addZ (K := K) rfl) (pv 6) (pv 8))))))))) (pss_cons (ps_set (i := 10) sc_l_body.nd rfl (by first | exact Or.inl rfl | exact Or.inr rfl) (pe_ix (ix_Y (K := K) rfl (hu_of hr)) (pv 5) (pe_callZ (ok_l_next T) (hr.mono (by decide)) (by rfl) T.g_l_next T.F_l_next.kp T.b_l_next pass0 (pa_cons (pv 0) (pa_cons (pe_callB (call_lenY (K := K) rfl) (by rfl) T.z_len PySem.boot_len (pa_cons (pv 5) pa_nil)) pa_nil))) (fun _ _ => rfl)))
      (pss_cons (ps_set (i := 7) sc_l_body.nd rfl (by first | exact Or.inl rfl | exact Or.inr rfl) (pe_op (op_addZ (K := K) rfl) (pe_op (op_addZ (K := K) rfl) (pv 7) (pe_ix (ix_Y (K := K) rfl (hu_of hr)) (pv 4) (pv 10) (fun _ _ => rfl))) (pe_callZ (ok_l_bits T) (hr.mono (by decide)) (by rfl) T.g_l_bits T.F_l_bits.kp T.b_l_bits pass0 (pa_cons (pe_callZ (ok_l_next T) (hr.mono (by decide)) (by rfl) T.g_l_next T.F_l_next.kp T.b_l_next pass0 (pa_cons (pv 0) (pa_cons pe_int pa_nil))) (pa_cons pe_int pa_nil)))))
      (pss_one (ps_set (i := 6) sc_l_body.nd rfl (by first | exact Or.inl rfl | exact Or.inr rfl) (pe_op (op_addZ (K := K) rfl) (pv 6) pe_int))))))))
      (pss_cons (ps_if (pt_cmpR (op_eqZ (K := K) rfl hr.units) (pv 2) pe_int (nomark _)) (pss_one (ps_set (i := 7) sc_l_body.nd rfl (by first | exact Or.inl rfl | exact Or.inr rfl) (pe_op (op_addZ (K := K) rfl) (pv 7) pe_str))) pss_nil)
      (pss_one (ps_ret (pe_callZ (ok_l_bytes T) (hr.mono (by decide)) (by rfl) T.g_l_bytes T.F_l_bytes.kp T.b_l_bytes pass0 (pa_cons (pv 7) pa_nil)))))))))))))),
    fn_run (np := 3) (N := ["_law_draw_here", "_law_many", "_law_spoilt", "_law_lengths_here", "_law_words_here", "_law_known", "_law_made", "_law_bits_here", "_law_size", "_law_far", "_law_symbol", "_law_word", "_law_length"]) (body := b_l_body) (by unfold b_l_body; exact (sv_seq (sv_asg (ei_callN (ev_cons ei_var ev_nil)))
      (sv_seq (sv_if (et_tst (ei_op j_eq ei_var (ei_c cr_int))) (sv_asg (ei_callN (ev_cons ei_var ev_nil))) sv_next)
      (sv_seq (sv_asg (ei_callN (ev_cons ei_var ev_nil)))
      (sv_seq (sv_if (et_tst (ei_op j_eq ei_var (ei_c cr_int))) (sv_asg (ei_cb jb_dict (ea_cons (ei_lcD (kd := .items) (i := 4) (ws := [10, 11]) rfl (fun b => (sg_tup (sgs_cons sg_name (sgs_cons sg_name sgs_nil)))) (by decide) (fun b => (et_tst (ei_op j_eq (ei_cb jb_len (ea_cons ei_var ea_nil)) (ei_c cr_int)))) (fun b => (ei_tup (ev_cons ei_var (ev_cons ei_var ev_nil))))) ea_nil))) sv_next)
      (sv_seq (sv_asg (ei_cb jb_sort (ea_cons (ei_lcD (kd := .keys) (i := 4) (ws := [10]) rfl (fun b => sg_name) (by decide) (fun b => (et_tst (ei_op (j_I0 fun _ _ => cr_bl) ei_var (ei_c cr_int)))) (fun b => ei_var)) ea_nil)))
      (sv_seq (sv_asg (ei_c cr_int))
      (sv_seq (sv_asg (ei_join (ei_c cr_str) (ei_lc (ws := [12]) (jw_list ei_var) sg_name (by decide) et_yes (ei_callN (ev_cons ei_var (ev_cons (ei_c cr_int) ev_nil))))))
      (sv_seq (sv_asg (ei_op j_add ei_var (ei_callN (ev_cons (ei_op j_mul (ei_cb jb_int (ea_cons (ei_op j_eq ei_var (ei_c cr_int)) ea_nil)) (ei_op j_add (ei_c cr_int) (ei_callN (ev_cons ei_var (ev_cons (ei_c cr_int) ev_nil))))) (ev_cons (ei_c cr_int) ev_nil)))))
      (sv_seq (sv_while (et_tst (ei_op (j_I0 fun _ _ => cr_bl) ei_var ei_var)) (sv_if (et_and (et_tst (ei_op j_in (ei_c cr_int) ei_var)) (et_and (et_tst (ei_op (j_I0 fun _ _ => cr_bl) ei_var (ei_c cr_int))) (et_tst (ei_op j_eq (ei_callN (ev_cons ei_var (ev_cons (ei_c cr_int) ev_nil))) (ei_c cr_int))))) (sv_seq (sv_asg (ei_op j_add (ei_c cr_int) (ei_callN (ev_cons ei_var (ev_cons (ei_cb jb_min2 (ea_cons (ei_c cr_int) (ea_cons (ei_op (j_I0 fun _ _ => cr_int) ei_var ei_var) ea_nil))) ev_nil)))))
      (sv_seq (sv_asg (ei_op j_add (ei_c cr_int) (ei_callN (ev_cons ei_var (ev_cons (ei_cb jb_min2 (ea_cons (ei_c cr_int) (ea_cons ei_var ea_nil))) ev_nil)))))
      (sv_seq (sv_if (et_and (et_tst (ei_op j_eq ei_var (ei_c cr_int))) (et_tst (ei_op j_eq (ei_callN (ev_cons ei_var (ev_cons (ei_c cr_int) ev_nil))) (ei_c cr_int)))) (sv_asg (ei_cb jb_min2 (ea_cons (ei_c cr_int) (ea_cons (ei_op j_add ei_var (ei_c cr_int)) ea_nil)))) sv_next)
      (sv_seq (sv_if (et_and (et_tst (ei_op j_eq ei_var (ei_c cr_int))) (et_tst (ei_op j_eq (ei_callN (ev_cons ei_var (ev_cons (ei_c cr_int) ev_nil))) (ei_c cr_int)))) (sv_asg (ei_cb jb_min2 (ea_cons (ei_c cr_int) (ea_cons (ei_op j_add (ei_op (j_I0 fun _ _ => cr_int) ei_var ei_var) (ei_c cr_int)) ea_nil)))) sv_next)
      (sv_seq (sv_asg (ei_op j_add (ei_op j_add (ei_op j_add ei_var (ei_op j_ixY ei_var (ei_c cr_int))) (ei_callN (ev_cons (ei_op (j_I0 fun _ _ => cr_int) ei_var (ei_c cr_int)) (ev_cons (ei_c cr_int) ev_nil)))) (ei_callN (ev_cons (ei_op (j_I0 fun _ _ => cr_int) ei_var (ei_c cr_int)) (ev_cons (ei_c cr_int) ev_nil)))))
      (sv_asg (ei_op j_add ei_var ei_var))))))) (sv_seq (sv_asg (ei_op j_ixY ei_var (ei_callN (ev_cons ei_var (ev_cons (ei_cb jb_len (ea_cons ei_var ea_nil)) ev_nil)))))
      (sv_seq (sv_asg (ei_op j_add (ei_op j_add ei_var (ei_op j_ixY ei_var ei_var)) (ei_callN (ev_cons (ei_callN (ev_cons ei_var (ev_cons (ei_c cr_int) ev_nil))) (ev_cons (ei_c cr_int) ev_nil)))))
      (sv_asg (ei_op j_add ei_var (ei_c cr_int)))))))
      (sv_seq (sv_if (et_tst (ei_op j_eq ei_var (ei_c cr_int))) (sv_asg (ei_op j_add ei_var (ei_c cr_str))) sv_next)
      (sv_ret (ei_callN (ev_cons ei_var ev_nil)))))))))))))) h⟩)
@[irreducible] noncomputable def b_l_piece : Ms :=
  (mSeq (mAsg 1 (mOp fIxY (mLst (vCons (mC (.int 0)) (vCons (mC (.int 1)) (vCons (mC (.int 1)) vNil)))) (mCallN m_l_next (vCons (mName 0) (vCons (mC (.int 3)) vNil)))))
  (mSeq (mAsg 2 (mOp fIxY (mLst (vCons (mCallN m_l_next (vCons (mName 0) (vCons (mC (.int 30)) vNil))) (vCons (mC (.int 255)) (vCons (mC (.int 1)) (vCons (mC (.int 0)) vNil))))) (mCB (fI2 max) (aCons (mC (.int 0)) (aCons (mOp (fI0 fun i j => .int (i - j)) (mCallN m_l_next (vCons (mName 0) (vCons (mC (.int 12)) vNil))) (mC (.int 8))) aNil)))))
  (mSeq (mAsg 3 (mCallN m_l_next (vCons (mName 0) (vCons (mC (.int 16)) vNil))))
  (mSeq (mAsg 4 (mLc [8] (mRng1 (aCons (mName 2) aNil)) (tgN 8) mYes (mCallN m_l_next (vCons (mName 0) (vCons (mC (.int 256)) vNil)))))
  (mSeq (mIfS (mBl (mOp fEq (mName 1) (mC (.int 1)))) (mAsg 4 (mCallN m_l_body (vCons (mName 0) (vCons (mName 2) (vCons (mName 3) vNil))))) mNext)
  (mSeq (mAsg 5 (mOp fAdd (mLst (vCons (mName 1) (vCons (mCallN m_l_next (vCons (mName 0) (vCons (mC (.int 255)) vNil))) (vCons (mCallN m_l_next (vCons (mName 0) (vCons (mC (.int 255)) vNil))) (vCons (mName 2) vNil))))) (mName 4)))
  (mSeq (mIfS (mBl (mOp fEq (mName 3) (mC (.int 4)))) (mAsgS (mName 5) (mCallN m_l_next (vCons (mName 0) (vCons (mC (.int 3)) vNil))) (mOp fIxY (mLst (vCons (mC (.int 2)) (vCons (mC (.int 255)) (vCons (mC (.int 255)) vNil)))) (mCallN m_l_next (vCons (mName 0) (vCons (mC (.int 3)) vNil))))) mNext)
  (mSeq (mIfS (mOr (mBl (mOp fEq (mName 3) (mC (.int 5)))) (mBl (mOp fEq (mName 3) (mC (.int 6))))) (mAsgS (mName 5) (mCallN m_l_next (vCons (mName 0) (vCons (mCB fLen (aCons (mName 5) aNil)) vNil))) (mCallN m_l_next (vCons (mName 0) (vCons (mC (.int 256)) vNil)))) mNext)
  (mSeq (mIfS (mAnd (mBl (mOp fEq (mName 3) (mC (.int 7)))) (mBl (mOp fNe (mName 4) (mLst vNil)))) (mSeq (mAsg 6 (mOp fAdd (mC (.int 4)) (mCallN m_l_next (vCons (mName 0) (vCons (mCB fLen (aCons (mName 4) aNil)) vNil)))))
  (mAsgS (mName 5) (mName 6) (mOp (fI0 fun i j => .int (Builtin.bitXor i j)) (mOp fIxY (mName 5) (mName 6)) (mOp (fI CShl fun i j => .int (i * 2 ^ j.toNat)) (mC (.int 1)) (mCallN m_l_next (vCons (mName 0) (vCons (mC (.int 8)) vNil))))))) mNext)
  (mSeq (mAsg 7 (mOp fAdd (mOp fAdd (mLst (vCons (mC (.int 165)) (vCons (mC (.int 90)) vNil))) (mName 5)) (mCallN m_l_sum (vCons (mName 5) vNil))))
  (mSeq (mIfS (mAnd (mBl (mOp (fI0 fun i j => .bl (decide (j < i))) (mName 3) (mC (.int 7)))) (mBl (mOp (fI0 fun i j => .bl (decide (i < j))) (mName 3) (mC (.int 11))))) (mAsgS (mName 7) (mCallN m_l_next (vCons (mName 0) (vCons (mCB fLen (aCons (mName 7) aNil)) vNil))) (mCallN m_l_next (vCons (mName 0) (vCons (mC (.int 256)) vNil)))) mNext)
  (mSeq (mIfS (mBl (mOp fEq (mName 3) (mC (.int 11)))) (mAsg 7 (mSl (mName 7) oNo (oSm (mCallN m_l_next (vCons (mName 0) (vCons (mCB fLen (aCons (mName 7) aNil)) vNil)))))) mNext)
  (mRet (mName 7))))))))))))))
noncomputable def m_l_piece : Mf := mFn 1 9 b_l_piece
theorem ok_l_piece {P : Program} {w : World} {K : PySem.W.Frag} {mg : Str → Option Value} {base : Heap} (T : Tx K mg) : FnOk P w K mg base CX0 4 T.a_l_piece T.d_l_piece ["_law_draw_here"] (spM K (ctT T) m_l_piece) :=
  T.F_l_piece.ok sc_l_piece (fun vs H Q E h => sp_len h) (fun cdv A outer s H vs Q E hr h => ⟨_, (pss_cons (ps_set (i := 1) sc_l_piece.nd rfl (by first | exact Or.inl rfl | exact Or.inr rfl) (pe_ix (ix_Y (K := K) rfl (hu_of hr)) (pe_lst (pa_cons pe_int (pa_cons pe_int (pa_cons pe_int pa_nil)))) (pe_callZ (ok_l_next T) (hr.mono (by decide)) (by rfl) T.g_l_next T.F_l_next.kp T.b_l_next pass0 (pa_cons (pv 0) (pa_cons pe_int pa_nil))) (fun _ _ => rfl)))
      (pss_cons (ps_set (i := 2) sc_l_piece.nd rfl (by first | exact Or.inl rfl | exact Or.inr rfl) (pe_ix (ix_Y (K := K) rfl (hu_of hr)) (pe_lst (pa_cons (pe_callZ (ok_l_next T) (hr.mono (by decide)) (by rfl) T.g_l_next T.F_l_next.kp T.b_l_next pass0 (pa_cons (pv 0) (pa_cons pe_int pa_nil))) (pa_cons pe_int (pa_cons pe_int (pa_cons pe_int pa_nil))))) (pe_callB (call_max2Z rfl) (by rfl) T.z_max (by decide +kernel) (pa_cons pe_int (pa_cons (pe_op op_sub (pe_callZ (ok_l_next T) (hr.mono (by decide)) (by rfl) T.g_l_next T.F_l_next.kp T.b_l_next pass0 (pa_cons (pv 0) (pa_cons pe_int pa_nil))) pe_int) pa_nil))) (fun _ _ => rfl)))
      (pss_cons (ps_set (i := 3) sc_l_piece.nd rfl (by first | exact Or.inl rfl | exact Or.inr rfl) (pe_callZ (ok_l_next T) (hr.mono (by decide)) (by rfl) T.g_l_next T.F_l_next.kp T.b_l_next pass0 (pa_cons (pv 0) (pa_cons pe_int pa_nil))))
      (pss_cons (ps_setLc (i := 4) (own := [("_law_k", 8)]) rfl sc_l_piece.nd rfl rfl (sw_true rfl rfl rfl (by decide +kernel)) (pi_range1 rfl T.z_range (pa_cons (pv 2) pa_nil)) (blkOk_by (N := ["_law_draw_here", "_law_kind", "_law_many", "_law_spoilt", "_law_body_here", "_law_told", "_law_at", "_law_row", "_law_k"]) (sc := defScope s_l_piece) (by decide +kernel)) (fun _ _ _ _ _ => (pg_name (i := 8) sc_l_piece.nd rfl (by first | exact Or.inl rfl | exact Or.inr rfl))) (fun _ _ _ _ _ => pts_nil) (fun _ _ _ _ _ => (pe_callZ (ok_l_next T) (hr.mono (by decide)) (by rfl) T.g_l_next T.F_l_next.kp T.b_l_next pass0 (pa_cons (pv 0) (pa_cons pe_int pa_nil)))))
      (pss_cons (ps_if (pt_cmpR (op_eqZ (K := K) rfl hr.units) (pv 1) pe_int (nomark _)) (pss_one (ps_set (i := 4) sc_l_piece.nd rfl (by first | exact Or.inl rfl | exact Or.inr rfl) (pe_callZ (ok_l_body T) (hr.mono (by decide)) (by rfl) T.g_l_body T.F_l_body.kp T.b_l_body pass0 (pa_cons (pv 0) (pa_cons (pv 2) (pa_cons (pv 3) pa_nil)))))) pss_nil)
      (pss_cons (ps_set (i := 5) sc_l_piece.nd rfl (by first | exact Or.inl rfl | exact Or.inr rfl) (pe_op (op_addZ (K := K) rfl) (pe_lst (pa_cons (pv 1) (pa_cons (pe_callZ (ok_l_next T) (hr.mono (by decide)) (by rfl) T.g_l_next T.F_l_next.kp T.b_l_next pass0 (pa_cons (pv 0) (pa_cons pe_int pa_nil))) (pa_cons (pe_callZ (ok_l_next T) (hr.mono (by decide)) (by rfl) T.g_l_next T.F_l_next.kp T.b_l_next pass0 (pa_cons (pv 0) (pa_cons pe_int pa_nil))) (pa_cons (pv 2) pa_nil))))) (pv 4)))
      (pss_cons (ps_if (pt_cmpR (op_eqZ (K := K) rfl hr.units) (pv 3) pe_int (nomark _)) (pss_one (ps_asg (pe_ix (ix_Y (K := K) rfl (hu_of hr)) (pe_lst (pa_cons pe_int (pa_cons pe_int (pa_cons pe_int pa_nil)))) (pe_callZ (ok_l_next T) (hr.mono (by decide)) (by rfl) T.g_l_next T.F_l_next.kp T.b_l_next pass0 (pa_cons (pv 0) (pa_cons pe_int pa_nil))) (fun _ _ => rfl)) (pg_sub (pv 5) (pe_callZ (ok_l_next T) (hr.mono (by decide)) (by rfl) T.g_l_next T.F_l_next.kp T.b_l_next pass0 (pa_cons (pv 0) (pa_cons pe_int pa_nil))) (set_Y (hu_of hr))))) pss_nil)
      (pss_cons (ps_if (PW.pt (pw_or (pt_cmpR (op_eqZ (K := K) rfl hr.units) (pv 3) pe_int (nomark _)) (pw_or1 (pt_cmpR (op_eqZ (K := K) rfl hr.units) (pv 3) pe_int (nomark _))))) (pss_one (ps_asg (pe_callZ (ok_l_next T) (hr.mono (by decide)) (by rfl) T.g_l_next T.F_l_next.kp T.b_l_next pass0 (pa_cons (pv 0) (pa_cons pe_int pa_nil))) (pg_sub (pv 5) (pe_callZ (ok_l_next T) (hr.mono (by decide)) (by rfl) T.g_l_next T.F_l_next.kp T.b_l_next pass0 (pa_cons (pv 0) (pa_cons (pe_callB (call_lenY (K := K) rfl) (by rfl) T.z_len PySem.boot_len (pa_cons (pv 5) pa_nil)) pa_nil))) (set_Y (hu_of hr))))) pss_nil)
      (pss_cons (ps_if (PW.pt (pw_and (pt_cmpR (op_eqZ (K := K) rfl hr.units) (pv 3) pe_int (nomark _)) (pw_and1 (pt_cmpR (op_neZ (K := K) rfl hr.units) (pv 4) (pe_lst pa_nil) (nomark _))))) (pss_cons (ps_set (i := 6) sc_l_piece.nd rfl (by first | exact Or.inl rfl | exact Or.inr rfl) (pe_op (op_addZ (K := K) rfl) pe_int (pe_callZ (ok_l_next T) (hr.mono (by decide)) (by rfl) T.g_l_next T.F_l_next.kp T.b_l_next pass0 (pa_cons (pv 0) (pa_cons (pe_callB (call_lenY (K := K) rfl) (by rfl) T.z_len PySem.boot_len (pa_cons (pv 4) pa_nil)) pa_nil)))))
      (pss_one (ps_asg (pe_op op_xor (pe_ix (ix_Y (K := K) rfl (hu_of hr)) (pv 5) (pv 6) (fun _ _ => rfl)) (pe_op op_shlW pe_int (pe_callZ (ok_l_next T) (hr.mono (by decide)) (by rfl) T.g_l_next T.F_l_next.kp T.b_l_next pass0 (pa_cons (pv 0) (pa_cons pe_int pa_nil))))) (pg_sub (pv 5) (pv 6) (set_Y (hu_of hr)))))) pss_nil)
      (pss_cons (ps_set (i := 7) sc_l_piece.nd rfl (by first | exact Or.inl rfl | exact Or.inr rfl) (pe_op (op_addZ (K := K) rfl) (pe_op (op_addZ (K := K) rfl) (pe_lst (pa_cons pe_int (pa_cons pe_int pa_nil))) (pv 5)) (pe_callZ (ok_l_sum T) (hr.mono (by decide)) (by rfl) T.g_l_sum T.F_l_sum.kp T.b_l_sum pass0 (pa_cons (pv 5) pa_nil))))
      (pss_cons (ps_if (PW.pt (pw_and (pt_cmpR op_gt (pv 3) pe_int (nomark _)) (pw_and1 (pt_cmpR op_lt (pv 3) pe_int (nomark _))))) (pss_one (ps_asg (pe_callZ (ok_l_next T) (hr.mono (by decide)) (by rfl) T.g_l_next T.F_l_next.kp T.b_l_next pass0 (pa_cons (pv 0) (pa_cons pe_int pa_nil))) (pg_sub (pv 7) (pe_callZ (ok_l_next T) (hr.mono (by decide)) (by rfl) T.g_l_next T.F_l_next.kp T.b_l_next pass0 (pa_cons (pv 0) (pa_cons (pe_callB (call_lenY (K := K) rfl) (by rfl) T.z_len PySem.boot_len (pa_cons (pv 7) pa_nil)) pa_nil))) (set_Y (hu_of hr))))) pss_nil)
      (pss_cons (ps_if (pt_cmpR (op_eqZ (K := K) rfl hr.units) (pv 3) pe_int (nomark _)) (pss_one (ps_set (i := 7) sc_l_piece.nd rfl (by first | exact Or.inl rfl | exact Or.inr rfl) (pe_slice (sl_Z (K := K) rfl) (pv 7) po_none (po_some (pe_callZ (ok_l_next T) (hr.mono (by decide)) (by rfl) T.g_l_next T.F_l_next.kp T.b_l_next pass0 (pa_cons (pv 0) (pa_cons (pe_callB (call_lenY (K := K) rfl) (by rfl) T.z_len PySem.boot_len (pa_cons (pv 7) pa_nil)) pa_nil))))))) pss_nil)
      (pss_one (ps_ret (pv 7))))))))))))))),
    fn_run (np := 1) (N := ["_law_draw_here", "_law_kind", "_law_many", "_law_spoilt", "_law_body_here", "_law_told", "_law_at", "_law_row", "_law_k"]) (body := b_l_piece) (by unfold b_l_piece; exact (sv_seq (sv_asg (ei_op j_ixY (ei_lst (ev_cons (ei_c cr_int) (ev_cons (ei_c cr_int) (ev_cons (ei_c cr_int) ev_nil)))) (ei_callN (ev_cons ei_var (ev_cons (ei_c cr_int) ev_nil)))))
      (sv_seq (sv_asg (ei_op j_ixY (ei_lst (ev_cons (ei_callN (ev_cons ei_var (ev_cons (ei_c cr_int) ev_nil))) (ev_cons (ei_c cr_int) (ev_cons (ei_c cr_int) (ev_cons (ei_c cr_int) ev_nil))))) (ei_cb jb_max2 (ea_cons (ei_c cr_int) (ea_cons (ei_op (j_I0 fun _ _ => cr_int) (ei_callN (ev_cons ei_var (ev_cons (ei_c cr_int) ev_nil))) (ei_c cr_int)) ea_nil)))))
      (sv_seq (sv_asg (ei_callN (ev_cons ei_var (ev_cons (ei_c cr_int) ev_nil))))
      (sv_seq (sv_asg (ei_lc (ws := [8]) (jw_rng1 (ea_cons ei_var ea_nil)) sg_name (by decide) et_yes (ei_callN (ev_cons ei_var (ev_cons (ei_c cr_int) ev_nil)))))
      (sv_seq (sv_if (et_tst (ei_op j_eq ei_var (ei_c cr_int))) (sv_asg (ei_callN (ev_cons ei_var (ev_cons ei_var (ev_cons ei_var ev_nil))))) sv_next)
      (sv_seq (sv_asg (ei_op j_add (ei_lst (ev_cons ei_var (ev_cons (ei_callN (ev_cons ei_var (ev_cons (ei_c cr_int) ev_nil))) (ev_cons (ei_callN (ev_cons ei_var (ev_cons (ei_c cr_int) ev_nil))) (ev_cons ei_var ev_nil))))) ei_var))
      (sv_seq (sv_if (et_tst (ei_op j_eq ei_var (ei_c cr_int))) (sv_asgS (ei_op j_ixY (ei_lst (ev_cons (ei_c cr_int) (ev_cons (ei_c cr_int) (ev_cons (ei_c cr_int) ev_nil)))) (ei_callN (ev_cons ei_var (ev_cons (ei_c cr_int) ev_nil)))) ei_var (ei_callN (ev_cons ei_var (ev_cons (ei_c cr_int) ev_nil)))) sv_next)
      (sv_seq (sv_if (et_or (et_tst (ei_op j_eq ei_var (ei_c cr_int))) (et_tst (ei_op j_eq ei_var (ei_c cr_int)))) (sv_asgS (ei_callN (ev_cons ei_var (ev_cons (ei_c cr_int) ev_nil))) ei_var (ei_callN (ev_cons ei_var (ev_cons (ei_cb jb_len (ea_cons ei_var ea_nil)) ev_nil)))) sv_next)
      (sv_seq (sv_if (et_and (et_tst (ei_op j_eq ei_var (ei_c cr_int))) (et_tst (ei_op j_ne ei_var (ei_lst ev_nil)))) (sv_seq (sv_asg (ei_op j_add (ei_c cr_int) (ei_callN (ev_cons ei_var (ev_cons (ei_cb jb_len (ea_cons ei_var ea_nil)) ev_nil)))))
      (sv_asgS (ei_op (j_I0 fun _ _ => cr_int) (ei_op j_ixY ei_var ei_var) (ei_op (j_I fun _ _ => cr_int) (ei_c cr_int) (ei_callN (ev_cons ei_var (ev_cons (ei_c cr_int) ev_nil))))) ei_var ei_var)) sv_next)
      (sv_seq (sv_asg (ei_op j_add (ei_op j_add (ei_lst (ev_cons (ei_c cr_int) (ev_cons (ei_c cr_int) ev_nil))) ei_var) (ei_callN (ev_cons ei_var ev_nil))))
      (sv_seq (sv_if (et_and (et_tst (ei_op (j_I0 fun _ _ => cr_bl) ei_var (ei_c cr_int))) (et_tst (ei_op (j_I0 fun _ _ => cr_bl) ei_var (ei_c cr_int)))) (sv_asgS (ei_callN (ev_cons ei_var (ev_cons (ei_c cr_int) ev_nil))) ei_var (ei_callN (ev_cons ei_var (ev_cons (ei_cb jb_len (ea_cons ei_var ea_nil)) ev_nil)))) sv_next)
      (sv_seq (sv_if (et_tst (ei_op j_eq ei_var (ei_c cr_int))) (sv_asg (ei_sl ei_var eo_no (eo_sm (ei_callN (ev_cons ei_var (ev_cons (ei_cb jb_len (ea_cons ei_var ea_nil)) ev_nil)))))) sv_next)
      (sv_ret ei_var)))))))))))))) h⟩)
@[irreducible] noncomputable def b_is_whole_bits : Ms :=
  (mRet (mAndV (mCB fIsi (aCons (mName 0) (aCons (mC (.ty "int")) aNil))) (mNotV (mCB fIsi (aCons (mName 0) (aCons (mC (.ty "bool")) aNil))))))
noncomputable def m_is_whole_bits : Mf := mFn 1 1 b_is_whole_bits
theorem ok_is_whole_bits {P : Program} {w : World} {K : PySem.W.Frag} {mg : Str → Option Value} {base : Heap} (T : Tx K mg) : FnOk P w K mg base CX0 1 T.a_is_whole_bits T.d_is_whole_bits ["thing"] (spM K (ctT T) m_is_whole_bits) :=
  T.F_is_whole_bits.ok sc_is_whole_bits (fun vs H Q E h => sp_len h) (fun cdv A outer s H vs Q E hr h => ⟨_, (pss_one (ps_ret (pe_and (pe_callB (call_isiZ (K := K) rfl) (by rfl) T.z_isinstance (by decide +kernel) (pa_cons (pv 0) (pa_cons (pe_bltn (v := .ty "int") rfl T.z_int (by decide +kernel) rfl) pa_nil))) (pe_one (pe_not (pe_callB (call_isiZ (K := K) rfl) (by rfl) T.z_isinstance (by decide +kernel) (pa_cons (pv 0) (pa_cons (pe_bltn (v := .ty "bool") rfl T.z_bool (by decide +kernel) rfl) pa_nil)))))))),
    fn_run (np := 1) (N := ["thing"]) (body := b_is_whole_bits) (by unfold b_is_whole_bits; exact (sv_ret (ei_andV (ei_cb jb_isi (ea_cons ei_var (ea_cons (ei_c cr_ty) ea_nil))) (ei_notV (ei_cb jb_isi (ea_cons ei_var (ea_cons (ei_c cr_ty) ea_nil))))))) h⟩)
@[irreducible] noncomputable def b_refuse_unless : Ms :=
  (mIfS (mNot (mTru (mName 0))) (mRaise 1) mNext)
noncomputable def m_refuse_unless : Mf := mFn 1 1 b_refuse_unless
theorem ok_refuse_unless {P : Program} {w : World} {K : PySem.W.Frag} {mg : Str → Option Value} {base : Heap} (T : Tx K mg) : FnOk P w K mg base (L2.CX P w) 3 T.a_refuse_unless T.d_refuse_unless ["good"] (spM K (ctT T) m_refuse_unless) :=
  T.F_refuse_unless.okX sc_refuse_unless (fun vs H Q E h => sp_len h) (fun cdv A outer s H vs Q E hr h => ⟨_, (pss_one (ps_if (pt_not (pt_truthZ (K := K) rfl (pv 0) (by intro _; rfl))) (pss_one (ps_raiseZ rfl (takes_of rfl rfl rfl rfl) PySem.F.excBase_ValueError T.x_BadBits T.g_BadBits T.k_BadBits (raises_own T.b_BadBits T.t_BadBits) (by rfl))) pss_nil)),
    fn_run (np := 1) (N := ["good"]) (body := b_refuse_unless) (by unfold b_refuse_unless; exact (sv_if (et_not (et_tru ei_var)) (sv_raise (c := 1)) sv_next)) h⟩)
@[irreducible] noncomputable def b_Reader_init : Ms :=
  (mSeq (mDrop (mCallN m_refuse_unless (vCons (mAndV (mCallN m_is_whole_bits (vCons (mName 2) vNil)) (mChain (fI0 fun i j => .bl (decide (i ≤ j))) (fI0 fun i j => .bl (decide (i ≤ j))) (mC (.int 0)) (mName 2) (mCB fLen (aCons (mName 1) aNil)))) vNil)))
  (mSeq (mFldS (fun c => c == 3) "bytes" (mName 0) (mCB fList (aCons (mName 1) aNil)))
  (mFldS (fun c => c == 3) "next" (mName 0) (mOp fMul (mC (.int 8)) (mName 2)))))
noncomputable def m_Reader_init : Mf := mFn 3 3 b_Reader_init
theorem ok_Reader_init {P : Program} {w : World} {K : PySem.W.Frag} {mg : Str → Option Value} {base : Heap} (T : Tx K mg) : FnOk P w K mg base CX0 4 T.a_Reader_init T.d_Reader_init ["self", "row", "at"] (spM K (ctT T) m_Reader_init) :=
  T.F_Reader_init.ok sc_Reader_init (fun vs H Q E h => sp_len h) (fun cdv A outer s H vs Q E hr h => ⟨_, (pss_cons (ps_expr (pe_callZ (ok_refuse_unless T) (hr.mono (by decide)) (by rfl) T.g_refuse_unless T.F_refuse_unless.kp T.b_refuse_unless passL (pa_cons (pe_and (pe_callZ (ok_is_whole_bits T) (hr.mono (by decide)) (by rfl) T.g_is_whole_bits T.F_is_whole_bits.kp T.b_is_whole_bits pass0 (pa_cons (pv 2) pa_nil)) (pe_one (pe_chain op_le op_le pe_int (pv 2) (pe_callB (call_lenY (K := K) rfl) (by rfl) T.z_len PySem.boot_len (pa_cons (pv 1) pa_nil))))) pa_nil)))
      (pss_cons (ps_fldZ (K := K) rfl (pv 0) (pe_callTy (call_listZ (K := K) rfl) (by rfl) T.z_list (by decide +kernel) (pa_cons (pv 1) pa_nil)) rfl)
      (pss_one (ps_fldZ (K := K) rfl (pv 0) (pe_op op_mulZ pe_int (pv 2)) rfl)))),
    fn_run (np := 3) (N := ["self", "row", "at"]) (body := b_Reader_init) (by unfold b_Reader_init; exact (sv_seq (sv_drop (ei_callN (ev_cons (ei_andV (ei_callN (ev_cons ei_var ev_nil)) (ei_chain (j_I0 fun _ _ => cr_bl) (j_I0 fun _ _ => cr_bl) (ei_c cr_int) ei_var (ei_cb jb_len (ea_cons ei_var ea_nil)))) ev_nil)))
      (sv_seq (sv_fld (ok := (fun c => c == 3)) (okc1 ⟨T.cl_Reader, T.n_Reader_bytes⟩) ei_var (ei_cb jb_list (ea_cons ei_var ea_nil)))
      (sv_fld (ok := (fun c => c == 3)) (okc1 ⟨T.cl_Reader, T.n_Reader_next⟩) ei_var (ei_op j_mul (ei_c cr_int) ei_var))))) h⟩)
@[irreducible] noncomputable def b_Reader_place : Ms :=
  (mRet (mOp (fI CDiv fun i j => .int (i / j)) (mOp fAdd (mFld (fun c => c == 3) "next" (mName 0)) (mC (.int 7))) (mC (.int 8))))
noncomputable def m_Reader_place : Mf := mFn 1 1 b_Reader_place
theorem ok_Reader_place {P : Program} {w : World} {K : PySem.W.Frag} {mg : Str → Option Value} {base : Heap} (T : Tx K mg) : FnOk P w K mg base CX0 1 T.a_Reader_place T.d_Reader_place ["self"] (spM K (ctT T) m_Reader_place) :=
  T.F_Reader_place.ok sc_Reader_place (fun vs H Q E h => sp_len h) (fun cdv A outer s H vs Q E hr h => ⟨_, (pss_one (ps_ret (pe_op op_fdiv (pe_op (op_addZ (K := K) rfl) (pe_fldZ (K := K) rfl (pv 0) rfl) pe_int) pe_int))),
    fn_run (np := 1) (N := ["self"]) (body := b_Reader_place) (by unfold b_Reader_place; exact (sv_ret (ei_op (j_I fun _ _ => cr_int) (ei_op j_add (ei_fld (ok := (fun c => c == 3)) (okc1 ⟨T.cl_Reader, T.n_Reader_next⟩) ei_var) (ei_c cr_int)) (ei_c cr_int)))) h⟩)
@[irreducible] noncomputable def b_Unpacker_init : Ms :=
  (mSeq (mFldS (fun c => c == 4) "reader" (mName 0) (mName 1))
  (mSeq (mFldS (fun c => c == 4) "many" (mName 0) (mName 3))
  (mSeq (mFldS (fun c => c == 4) "made" (mName 0) (mLst vNil))
  (mSeq (mFldS (fun c => c == 4) "known" (mName 0) mDNewT)
  (mFor (mWE (vCons (mName 2) vNil)) (tgT 2 (tgCons (tgN 4) (tgCons (tgN 5) tgNil))) (mIfS (mBl (mOp fIsn (mName 5) (mC .non))) (mAsgST (mFld (fun c => c == 4) "known" (mName 0)) (mName 5) (mName 4)) mNext))))))
noncomputable def m_Unpacker_init : Mf := mFn 4 6 b_Unpacker_init
theorem ok_Unpacker_init {P : Program} {w : World} {K : PySem.W.Frag} {mg : Str → Option Value} {base : Heap} (T : Tx K mg) : FnOk P w K mg base CX0 1 T.a_Unpacker_init T.d_Unpacker_init ["self", "reader", "words", "many"] (spM K (ctT T) m_Unpacker_init) :=
  T.F_Unpacker_init.ok sc_Unpacker_init (fun vs H Q E h => sp_len h) (fun cdv A outer s H vs Q E hr h => ⟨_, (pss_cons (ps_fldZ (K := K) rfl (pv 0) (pv 1) rfl)
      (pss_cons (ps_fldZ (K := K) rfl (pv 0) (pv 3) rfl)
      (pss_cons (ps_fldZ (K := K) rfl (pv 0) (pe_lst pa_nil) rfl)
      (pss_cons (ps_fldZ (K := K) rfl (pv 0) pe_dnewT rfl)
      (pss_one (ps_for PassesOwn.never rfl (pi_enumZ (K := K) rfl rfl T.z_enumerate (pa_cons (pv 2) pa_nil)) (pg_tupZ (K := K) (n := 2) rfl rfl (pgs_cons (pg_name (i := 4) sc_Unpacker_init.nd rfl (by first | exact Or.inl rfl | exact Or.inr rfl)) (pgs_cons (pg_name (i := 5) sc_Unpacker_init.nd rfl (by first | exact Or.inl rfl | exact Or.inr rfl)) pgs_nil))) (pss_one (ps_if (pt_cmpR op_isnZ (pv 5) pe_non (nomark _)) (pss_one (ps_asg (pv 4) (pg_sub (pe_fldZ (K := K) rfl (pv 0) rfl) (pv 5) (set_Y (hu_of hr))))) pss_nil)))))))),
    fn_run (np := 4) (N := ["self", "reader", "words", "many", "symbol", "word"]) (body := b_Unpacker_init) (by unfold b_Unpacker_init; exact (sv_seq (sv_fld (ok := (fun c => c == 4)) (okc1 ⟨T.cl_Unpacker, T.n_Unpacker_reader⟩) ei_var ei_var)
      (sv_seq (sv_fld (ok := (fun c => c == 4)) (okc1 ⟨T.cl_Unpacker, T.n_Unpacker_many⟩) ei_var ei_var)
      (sv_seq (sv_fld (ok := (fun c => c == 4)) (okc1 ⟨T.cl_Unpacker, T.n_Unpacker_made⟩) ei_var (ei_lst ev_nil))
      (sv_seq (sv_fld (ok := (fun c => c == 4)) (okc1 ⟨T.cl_Unpacker, T.n_Unpacker_known⟩) ei_var ei_dnewT)
      (sv_for (jw_enum (ev_cons ei_var ev_nil)) (sg_tup (sgs_cons sg_name (sgs_cons sg_name sgs_nil))) (sv_if (et_tst (ei_op j_isn ei_var (ei_c cr_non))) (sv_asgST ei_var (ei_fld (ok := (fun c => c == 4)) (okc1 ⟨T.cl_Unpacker, T.n_Unpacker_known⟩) ei_var) ei_var) sv_next))))))) h⟩)
@[irreducible] noncomputable def b_Reader_left : Ms :=
  (mRet (mOp (fI0 fun i j => .int (i - j)) (mOp fMul (mC (.int 8)) (mCB fLen (aCons (mFld (fun c => c == 3) "bytes" (mName 0)) aNil))) (mFld (fun c => c == 3) "next" (mName 0))))
noncomputable def m_Reader_left : Mf := mFn 1 1 b_Reader_left
theorem ok_Reader_left {P : Program} {w : World} {K : PySem.W.Frag} {mg : Str → Option Value} {base : Heap} (T : Tx K mg) : FnOk P w K mg base CX0 1 T.a_Reader_left T.d_Reader_left ["self"] (spM K (ctT T) m_Reader_left) :=
  T.F_Reader_left.ok sc_Reader_left (fun vs H Q E h => sp_len h) (fun cdv A outer s H vs Q E hr h => ⟨_, (pss_one (ps_ret (pe_op op_sub (pe_op op_mulZ pe_int (pe_callB (call_lenY (K := K) rfl) (by rfl) T.z_len PySem.boot_len (pa_cons (pe_fldZ (K := K) rfl (pv 0) rfl) pa_nil))) (pe_fldZ (K := K) rfl (pv 0) rfl)))),
    fn_run (np := 1) (N := ["self"]) (body := b_Reader_left) (by unfold b_Reader_left; exact (sv_ret (ei_op (j_I0 fun _ _ => cr_int) (ei_op j_mul (ei_c cr_int) (ei_cb jb_len (ea_cons (ei_fld (ok := (fun c => c == 3)) (okc1 ⟨T.cl_Reader, T.n_Reader_bytes⟩) ei_var) ea_nil))) (ei_fld (ok := (fun c => c == 3)) (okc1 ⟨T.cl_Reader, T.n_Reader_next⟩) ei_var)))) h⟩)
@[irreducible] noncomputable def b_Reader_take : Ms :=
  (mSeq (mDrop (mCallN m_refuse_unless (vCons (mAndV (mCallN m_is_whole_bits (vCons (mName 1) vNil)) (mAndV (mChain (fI0 fun i j => .bl (decide (i ≤ j))) (fI0 fun i j => .bl (decide (i ≤ j))) (mC (.int 0)) (mName 1) (mC (.int 64))) (mOp (fI0 fun i j => .bl (decide (i ≤ j))) (mName 1) (mMethN 3 "left" m_Reader_left (mName 0) vNil)))) vNil)))
  (mSeq (mAsg 2 (mC (.int 0)))
  (mSeq (mFor (mRng1 (aCons (mName 1) aNil)) (tgN 3) (mSeq (mAsg 2 (mOp fAdd (mOp fMul (mC (.int 2)) (mName 2)) (mOp (fI0 fun i j => .int (Builtin.bitAnd i j)) (mOp (fI (fun _ j => 0 ≤ j) fun i j => .int (i / 2 ^ j.toNat)) (mOp fIxY (mFld (fun c => c == 3) "bytes" (mName 0)) (mOp (fI CDiv fun i j => .int (i / j)) (mFld (fun c => c == 3) "next" (mName 0)) (mC (.int 8)))) (mOp (fI0 fun i j => .int (i - j)) (mC (.int 7)) (mOp (fI (fun _ j => 0 < j) fun i j => .int (i % j)) (mFld (fun c => c == 3) "next" (mName 0)) (mC (.int 8))))) (mC (.int 1)))))
  (mFldA (fun c => c == 3) "next" (fun i j => i + j) (mName 0) (mC (.int 1)))))
  (mRet (mName 2)))))
noncomputable def m_Reader_take : Mf := mFn 2 4 b_Reader_take
theorem ok_Reader_take {P : Program} {w : World} {K : PySem.W.Frag} {mg : Str → Option Value} {base : Heap} (T : Tx K mg) : FnOk P w K mg base CX0 4 T.a_Reader_take T.d_Reader_take ["self", "many"] (spM K (ctT T) m_Reader_take) :=
  T.F_Reader_take.ok sc_Reader_take (fun vs H Q E h => sp_len h) (fun cdv A outer s H vs Q E hr h => ⟨_, (pss_cons (ps_expr (pe_callZ (ok_refuse_unless T) (hr.mono (by decide)) (by rfl) T.g_refuse_unless T.F_refuse_unless.kp T.b_refuse_unless passL (pa_cons (pe_and (pe_callZ (ok_is_whole_bits T) (hr.mono (by decide)) (by rfl) T.g_is_whole_bits T.F_is_whole_bits.kp T.b_is_whole_bits pass0 (pa_cons (pv 1) pa_nil)) (pe_and (pe_chain op_le op_le pe_int (pv 1) (pe_glob rfl T.m_MOST_BITS T.r_MOST_BITS)) (pe_one (pe_cmpR op_le (pv 1) (pe_meth0Z (pv 0) T.cl_Reader T.M_Reader_left (ok_Reader_left T) (hr.mono (by decide)) T.b_Reader_left pass0) (nomark _))))) pa_nil)))
      (pss_cons (ps_set (i := 2) sc_Reader_take.nd rfl (by first | exact Or.inl rfl | exact Or.inr rfl) pe_int)
      (pss_cons (ps_for PassesOwn.never rfl (pi_range1 rfl T.z_range (pa_cons (pv 1) pa_nil)) (pg_name (i := 3) sc_Reader_take.nd rfl (by first | exact Or.inl rfl | exact Or.inr rfl)) (pss_cons (ps_set (i := 2) sc_Reader_take.nd rfl (by first | exact Or.inl rfl | exact Or.inr rfl) (pe_op (op_addZ (K := K) rfl) (pe_op op_mulZ pe_int (pv 2)) (pe_op op_and (pe_op op_shr (pe_ix (ix_Y (K := K) rfl (hu_of hr)) (pe_fldZ (K := K) rfl (pv 0) rfl) (pe_op op_fdiv (pe_fldZ (K := K) rfl (pv 0) rfl) pe_int) (fun _ _ => rfl)) (pe_op op_sub pe_int (pe_op op_mod (pe_fldZ (K := K) rfl (pv 0) rfl) pe_int))) pe_int)))
      (pss_one (ps_fldaugZ (K := K) rfl (pv 0) pe_int in_add))))
      (pss_one (ps_ret (pv 2)))))),
    fn_run (np := 2) (N := ["self", "many", "found", "k"]) (body := b_Reader_take) (by unfold b_Reader_take; exact (sv_seq (sv_drop (ei_callN (ev_cons (ei_andV (ei_callN (ev_cons ei_var ev_nil)) (ei_andV (ei_chain (j_I0 fun _ _ => cr_bl) (j_I0 fun _ _ => cr_bl) (ei_c cr_int) ei_var (ei_c cr_int)) (ei_op (j_I0 fun _ _ => cr_bl) ei_var (ei_methN (c := 3) ei_var ev_nil)))) ev_nil)))
      (sv_seq (sv_asg (ei_c cr_int))
      (sv_seq (sv_for (jw_rng1 (ea_cons ei_var ea_nil)) sg_name (sv_seq (sv_asg (ei_op j_add (ei_op j_mul (ei_c cr_int) ei_var) (ei_op (j_I0 fun _ _ => cr_int) (ei_op (j_I fun _ _ => cr_int) (ei_op j_ixY (ei_fld (ok := (fun c => c == 3)) (okc1 ⟨T.cl_Reader, T.n_Reader_bytes⟩) ei_var) (ei_op (j_I fun _ _ => cr_int) (ei_fld (ok := (fun c => c == 3)) (okc1 ⟨T.cl_Reader, T.n_Reader_next⟩) ei_var) (ei_c cr_int))) (ei_op (j_I0 fun _ _ => cr_int) (ei_c cr_int) (ei_op (j_I fun _ _ => cr_int) (ei_fld (ok := (fun c => c == 3)) (okc1 ⟨T.cl_Reader, T.n_Reader_next⟩) ei_var) (ei_c cr_int)))) (ei_c cr_int))))
      (sv_fldA (ok := (fun c => c == 3)) (g := (fun i j => i + j)) (okc1 ⟨T.cl_Reader, T.n_Reader_next⟩) ei_var (ei_c cr_int))))
      (sv_ret ei_var))))) h⟩)
@[irreducible] noncomputable def b_Reader_ended : Ms :=
  (mRet (mOp fEq (mMethN 3 "take" m_Reader_take (mName 0) (vCons (mOp (fI (fun _ j => 0 < j) fun i j => .int (i % j)) (mOp (fI0 fun i j => .int (i - j)) (mC (.int 0)) (mFld (fun c => c == 3) "next" (mName 0))) (mC (.int 8))) vNil)) (mC (.int 0))))
noncomputable def m_Reader_ended : Mf := mFn 1 1 b_Reader_ended
theorem ok_Reader_ended {P : Program} {w : World} {K : PySem.W.Frag} {mg : Str → Option Value} {base : Heap} (T : Tx K mg) : FnOk P w K mg base CX0 5 T.a_Reader_ended T.d_Reader_ended ["self"] (spM K (ctT T) m_Reader_ended) :=
  T.F_Reader_ended.ok sc_Reader_ended (fun vs H Q E h => sp_len h) (fun cdv A outer s H vs Q E hr h => ⟨_, (pss_one (ps_ret (pe_cmpR (op_eqZ (K := K) rfl hr.units) (pe_methZ (pv 0) T.cl_Reader T.M_Reader_take (ok_Reader_take T) (hr.mono (by decide)) T.b_Reader_take pass0 (pa_cons (pe_op op_mod (pe_op op_sub pe_int (pe_fldZ (K := K) rfl (pv 0) rfl)) pe_int) pa_nil)) pe_int (nomark _)))),
    fn_run (np := 1) (N := ["self"]) (body := b_Reader_ended) (by unfold b_Reader_ended; exact (sv_ret (ei_op j_eq (ei_methN (c := 3) ei_var (ev_cons (ei_op (j_I fun _ _ => cr_int) (ei_op (j_I0 fun _ _ => cr_int) (ei_c cr_int) (ei_fld (ok := (fun c => c == 3)) (okc1 ⟨T.cl_Reader, T.n_Reader_next⟩) ei_var)) (ei_c cr_int)) ev_nil)) (ei_c cr_int)))) h⟩)
@[irreducible] noncomputable def b_Unpacker_next_symbol : Ms :=
  (mSeq (mAsg 1 (mC (.int 0)))
  (mSeq (mAsg 2 (mC (.int 0)))
  (mSeq (mWh (mAnd (mBl (mOp (fI0 fun i j => .bl (decide (j < i))) (mMethN 3 "left" m_Reader_left (mFld (fun c => c == 4) "reader" (mName 0)) vNil) (mC (.int 0)))) (mBl (mOp (fI0 fun i j => .bl (decide (i < j))) (mName 1) (mC (.int 15))))) (mSeq (mAsg 2 (mOp fAdd (mOp fMul (mC (.int 2)) (mName 2)) (mMethN 3 "take" m_Reader_take (mFld (fun c => c == 4) "reader" (mName 0)) (vCons (mC (.int 1)) vNil))))
  (mSeq (mAug 1 (fun i j => i + j) (mC (.int 1)))
  (mIfS (mBl (mOp (fInDT id) (mTup (vCons (mName 1) (vCons (mName 2) vNil))) (mFld (fun c => c == 4) "known" (mName 0)))) (mRet (mOp fIxDT (mFld (fun c => c == 4) "known" (mName 0)) (mTup (vCons (mName 1) (vCons (mName 2) vNil))))) mNext))))
  (mRet (mC .non)))))
noncomputable def m_Unpacker_next_symbol : Mf := mFn 1 3 b_Unpacker_next_symbol
theorem ok_Unpacker_next_symbol {P : Program} {w : World} {K : PySem.W.Frag} {mg : Str → Option Value} {base : Heap} (T : Tx K mg) : FnOk P w K mg base CX0 5 T.a_Unpacker_next_symbol T.d_Unpacker_next_symbol ["self"] (spM K (ctT T) m_Unpacker_next_symbol) :=
  T.F_Unpacker_next_symbol.ok sc_Unpacker_next_symbol (fun vs H Q E h => sp_len h) (fun cdv A outer s H vs Q E hr h => ⟨_, (pss_cons (ps_set (i := 1) sc_Unpacker_next_symbol.nd rfl (by first | exact Or.inl rfl | exact Or.inr rfl) pe_int)
      (pss_cons (ps_set (i := 2) sc_Unpacker_next_symbol.nd rfl (by first | exact Or.inl rfl | exact Or.inr rfl) pe_int)
      (pss_cons (ps_while PassesOwn.never (PW.pt (pw_and (pt_cmpR op_gt (pe_meth0Z (pe_fldZ (K := K) rfl (pv 0) rfl) T.cl_Reader T.M_Reader_left (ok_Reader_left T) (hr.mono (by decide)) T.b_Reader_left pass0) pe_int (nomark _)) (pw_and1 (pt_cmpR op_lt (pv 1) pe_int (nomark _))))) (pss_cons (ps_set (i := 2) sc_Unpacker_next_symbol.nd rfl (by first | exact Or.inl rfl | exact Or.inr rfl) (pe_op (op_addZ (K := K) rfl) (pe_op op_mulZ pe_int (pv 2)) (pe_methZ (pe_fldZ (K := K) rfl (pv 0) rfl) T.cl_Reader T.M_Reader_take (ok_Reader_take T) (hr.mono (by decide)) T.b_Reader_take pass0 (pa_cons pe_int pa_nil))))
      (pss_cons (ps_aug (i := 1) sc_Unpacker_next_symbol.nd rfl (by first | exact Or.inl rfl | exact Or.inr rfl) pe_int ip_add)
      (pss_one (ps_if (pt_cmpR (op_inY (K := K) rfl (u65 hr)) (pe_tup (pa_cons (pv 1) (pa_cons (pv 2) pa_nil))) (pe_fldZ (K := K) rfl (pv 0) rfl) (by rfl)) (pss_one (ps_ret (pe_ix (ix_Y (K := K) rfl (hu_of hr)) (pe_fldZ (K := K) rfl (pv 0) rfl) (pe_tup (pa_cons (pv 1) (pa_cons (pv 2) pa_nil))) (fun _ _ => rfl)))) pss_nil)))))
      (pss_one (ps_ret pe_non))))),
    fn_run (np := 1) (N := ["self", "size", "number"]) (body := b_Unpacker_next_symbol) (by unfold b_Unpacker_next_symbol; exact (sv_seq (sv_asg (ei_c cr_int))
      (sv_seq (sv_asg (ei_c cr_int))
      (sv_seq (sv_while (et_and (et_tst (ei_op (j_I0 fun _ _ => cr_bl) (ei_methN (c := 3) (ei_fld (ok := (fun c => c == 4)) (okc1 ⟨T.cl_Unpacker, T.n_Unpacker_reader⟩) ei_var) ev_nil) (ei_c cr_int))) (et_tst (ei_op (j_I0 fun _ _ => cr_bl) ei_var (ei_c cr_int)))) (sv_seq (sv_asg (ei_op j_add (ei_op j_mul (ei_c cr_int) ei_var) (ei_methN (c := 3) (ei_fld (ok := (fun c => c == 4)) (okc1 ⟨T.cl_Unpacker, T.n_Unpacker_reader⟩) ei_var) (ev_cons (ei_c cr_int) ev_nil))))
      (sv_seq (sv_aug (ei_c cr_int))
      (sv_if (et_tst (ei_op j_inDT (ei_tup (ev_cons ei_var (ev_cons ei_var ev_nil))) (ei_fld (ok := (fun c => c == 4)) (okc1 ⟨T.cl_Unpacker, T.n_Unpacker_known⟩) ei_var))) (sv_ret (ei_op j_ixDT (ei_fld (ok := (fun c => c == 4)) (okc1 ⟨T.cl_Unpacker, T.n_Unpacker_known⟩) ei_var) (ei_tup (ev_cons ei_var (ev_cons ei_var ev_nil))))) sv_next))))
      (sv_ret (ei_c cr_non)))))) h⟩)
@[irreducible] noncomputable def b_Unpacker_take_back : Ms :=
  (mSeq (mIfS (mBl (mOp (fI0 fun i j => .bl (decide (i < j))) (mMethN 3 "left" m_Reader_left (mFld (fun c => c == 4) "reader" (mName 0)) vNil) (mC (.int 12)))) (mRet (mC (.bl false))) mNext)
  (mSeq (mAsg 1 (mOp fAdd (mMethN 3 "take" m_Reader_take (mFld (fun c => c == 4) "reader" (mName 0)) (vCons (mC (.int 8)) vNil)) (mC (.int 1))))
  (mSeq (mAsg 2 (mOp fAdd (mMethN 3 "take" m_Reader_take (mFld (fun c => c == 4) "reader" (mName 0)) (vCons (mC (.int 4)) vNil)) (mC (.int 1))))
  (mSeq (mIfS (mOr (mBl (mOp (fI0 fun i j => .bl (decide (j < i))) (mName 1) (mCB fLen (aCons (mFld (fun c => c == 4) "made" (mName 0)) aNil)))) (mBl (mOp (fI0 fun i j => .bl (decide (j < i))) (mName 2) (mOp (fI0 fun i j => .int (i - j)) (mFld (fun c => c == 4) "many" (mName 0)) (mCB fLen (aCons (mFld (fun c => c == 4) "made" (mName 0)) aNil)))))) (mRet (mC (.bl false))) mNext)
  (mSeq (mFor (mRng1 (aCons (mName 2) aNil)) (tgN 3) (mDrop (mBM fApp (mFld (fun c => c == 4) "made" (mName 0)) (vCons (mOp fIxY (mFld (fun c => c == 4) "made" (mName 0)) (mOp (fI0 fun i j => .int (i - j)) (mCB fLen (aCons (mFld (fun c => c == 4) "made" (mName 0)) aNil)) (mName 1))) vNil))))
  (mRet (mC (.bl true))))))))
noncomputable def m_Unpacker_take_back : Mf := mFn 1 4 b_Unpacker_take_back
theorem ok_Unpacker_take_back {P : Program} {w : World} {K : PySem.W.Frag} {mg : Str → Option Value} {base : Heap} (T : Tx K mg) : FnOk P w K mg base CX0 5 T.a_Unpacker_take_back T.d_Unpacker_take_back ["self"] (spM K (ctT T) m_Unpacker_take_back) :=
  T.F_Unpacker_take_back.ok sc_Unpacker_take_back (fun vs H Q E h => sp_len h) (fun cdv A outer s H vs Q E hr h => ⟨_, (pss_cons (ps_if (pt_cmpR op_lt (pe_meth0Z (pe_fldZ (K := K) rfl (pv 0) rfl) T.cl_Reader T.M_Reader_left (ok_Reader_left T) (hr.mono (by decide)) T.b_Reader_left pass0) pe_int (nomark _)) (pss_one (ps_ret pe_bl)) pss_nil)
      (pss_cons (ps_set (i := 1) sc_Unpacker_take_back.nd rfl (by first | exact Or.inl rfl | exact Or.inr rfl) (pe_op (op_addZ (K := K) rfl) (pe_methZ (pe_fldZ (K := K) rfl (pv 0) rfl) T.cl_Reader T.M_Reader_take (ok_Reader_take T) (hr.mono (by decide)) T.b_Reader_take pass0 (pa_cons pe_int pa_nil)) pe_int))
      (pss_cons (ps_set (i := 2) sc_Unpacker_take_back.nd rfl (by first | exact Or.inl rfl | exact Or.inr rfl) (pe_op (op_addZ (K := K) rfl) (pe_methZ (pe_fldZ (K := K) rfl (pv 0) rfl) T.cl_Reader T.M_Reader_take (ok_Reader_take T) (hr.mono (by decide)) T.b_Reader_take pass0 (pa_cons pe_int pa_nil)) pe_int))
      (pss_cons (ps_if (PW.pt (pw_or (pt_cmpR op_gt (pv 1) (pe_callB (call_lenY (K := K) rfl) (by rfl) T.z_len PySem.boot_len (pa_cons (pe_fldZ (K := K) rfl (pv 0) rfl) pa_nil)) (nomark _)) (pw_or1 (pt_cmpR op_gt (pv 2) (pe_op op_sub (pe_fldZ (K := K) rfl (pv 0) rfl) (pe_callB (call_lenY (K := K) rfl) (by rfl) T.z_len PySem.boot_len (pa_cons (pe_fldZ (K := K) rfl (pv 0) rfl) pa_nil))) (nomark _))))) (pss_one (ps_ret pe_bl)) pss_nil)
      (pss_cons (ps_for PassesOwn.never rfl (pi_range1 rfl T.z_range (pa_cons (pv 2) pa_nil)) (pg_name (i := 3) sc_Unpacker_take_back.nd rfl (by first | exact Or.inl rfl | exact Or.inr rfl)) (pss_one (ps_expr (pe_bmZ (K := K) rfl PySem.F.plainAttrs_list PySem.F.slot_list_append PySem.F.type_list_append mt_append (pe_fldZ (K := K) rfl (pv 0) rfl) (pa_cons (pe_ix (ix_Y (K := K) rfl (hu_of hr)) (pe_fldZ (K := K) rfl (pv 0) rfl) (pe_op op_sub (pe_callB (call_lenY (K := K) rfl) (by rfl) T.z_len PySem.boot_len (pa_cons (pe_fldZ (K := K) rfl (pv 0) rfl) pa_nil)) (pv 1)) (fun _ _ => rfl)) pa_nil)))))
      (pss_one (ps_ret pe_bl))))))),
    fn_run (np := 1) (N := ["self", "distance", "length", "k"]) (body := b_Unpacker_take_back) (by unfold b_Unpacker_take_back; exact (sv_seq (sv_if (et_tst (ei_op (j_I0 fun _ _ => cr_bl) (ei_methN (c := 3) (ei_fld (ok := (fun c => c == 4)) (okc1 ⟨T.cl_Unpacker, T.n_Unpacker_reader⟩) ei_var) ev_nil) (ei_c cr_int))) (sv_ret (ei_c cr_bl)) sv_next)
      (sv_seq (sv_asg (ei_op j_add (ei_methN (c := 3) (ei_fld (ok := (fun c => c == 4)) (okc1 ⟨T.cl_Unpacker, T.n_Unpacker_reader⟩) ei_var) (ev_cons (ei_c cr_int) ev_nil)) (ei_c cr_int)))
      (sv_seq (sv_asg (ei_op j_add (ei_methN (c := 3) (ei_fld (ok := (fun c => c == 4)) (okc1 ⟨T.cl_Unpacker, T.n_Unpacker_reader⟩) ei_var) (ev_cons (ei_c cr_int) ev_nil)) (ei_c cr_int)))
      (sv_seq (sv_if (et_or (et_tst (ei_op (j_I0 fun _ _ => cr_bl) ei_var (ei_cb jb_len (ea_cons (ei_fld (ok := (fun c => c == 4)) (okc1 ⟨T.cl_Unpacker, T.n_Unpacker_made⟩) ei_var) ea_nil)))) (et_tst (ei_op (j_I0 fun _ _ => cr_bl) ei_var (ei_op (j_I0 fun _ _ => cr_int) (ei_fld (ok := (fun c => c == 4)) (okc1 ⟨T.cl_Unpacker, T.n_Unpacker_many⟩) ei_var) (ei_cb jb_len (ea_cons (ei_fld (ok := (fun c => c == 4)) (okc1 ⟨T.cl_Unpacker, T.n_Unpacker_made⟩) ei_var) ea_nil)))))) (sv_ret (ei_c cr_bl)) sv_next)
      (sv_seq (sv_for (jw_rng1 (ea_cons ei_var ea_nil)) sg_name (sv_drop (ei_bm jm_app (ei_fld (ok := (fun c => c == 4)) (okc1 ⟨T.cl_Unpacker, T.n_Unpacker_made⟩) ei_var) (ev_cons (ei_op j_ixY (ei_fld (ok := (fun c => c == 4)) (okc1 ⟨T.cl_Unpacker, T.n_Unpacker_made⟩) ei_var) (ei_op (j_I0 fun _ _ => cr_int) (ei_cb jb_len (ea_cons (ei_fld (ok := (fun c => c == 4)) (okc1 ⟨T.cl_Unpacker, T.n_Unpacker_made⟩) ei_var) ea_nil)) ei_var)) ev_nil))))
      (sv_ret (ei_c cr_bl)))))))) h⟩)
@[irreducible] noncomputable def b_Unpacker_take_byte : Ms :=
  (mSeq (mIfS (mBl (mOp (fI0 fun i j => .bl (decide (i < j))) (mMethN 3 "left" m_Reader_left (mFld (fun c => c == 4) "reader" (mName 0)) vNil) (mC (.int 3)))) (mRet (mC (.bl false))) mNext)
  (mSeq (mDrop (mBM fApp (mFld (fun c => c == 4) "made" (mName 0)) (vCons (mOp fAdd (mOp fMul (mC (.int 8)) (mName 1)) (mMethN 3 "take" m_Reader_take (mFld (fun c => c == 4) "reader" (mName 0)) (vCons (mC (.int 3)) vNil))) vNil)))
  (mRet (mC (.bl true)))))
noncomputable def m_Unpacker_take_byte : Mf := mFn 2 2 b_Unpacker_take_byte
theorem ok_Unpacker_take_byte {P : Program} {w : World} {K : PySem.W.Frag} {mg : Str → Option Value} {base : Heap} (T : Tx K mg) : FnOk P w K mg base CX0 5 T.a_Unpacker_take_byte T.d_Unpacker_take_byte ["self", "symbol"] (spM K (ctT T) m_Unpacker_take_byte) :=
  T.F_Unpacker_take_byte.ok sc_Unpacker_take_byte (fun vs H Q E h => sp_len h) (fun cdv A outer s H vs Q E hr h => ⟨_, (pss_cons (ps_if (pt_cmpR op_lt (pe_meth0Z (pe_fldZ (K := K) rfl (pv 0) rfl) T.cl_Reader T.M_Reader_left (ok_Reader_left T) (hr.mono (by decide)) T.b_Reader_left pass0) pe_int (nomark _)) (pss_one (ps_ret pe_bl)) pss_nil)
      (pss_cons (ps_expr (pe_bmZ (K := K) rfl PySem.F.plainAttrs_list PySem.F.slot_list_append PySem.F.type_list_append mt_append (pe_fldZ (K := K) rfl (pv 0) rfl) (pa_cons (pe_op (op_addZ (K := K) rfl) (pe_op op_mulZ pe_int (pv 1)) (pe_methZ (pe_fldZ (K := K) rfl (pv 0) rfl) T.cl_Reader T.M_Reader_take (ok_Reader_take T) (hr.mono (by decide)) T.b_Reader_take pass0 (pa_cons pe_int pa_nil))) pa_nil)))
      (pss_one (ps_ret pe_bl)))),
    fn_run (np := 2) (N := ["self", "symbol"]) (body := b_Unpacker_take_byte) (by unfold b_Unpacker_take_byte; exact (sv_seq (sv_if (et_tst (ei_op (j_I0 fun _ _ => cr_bl) (ei_methN (c := 3) (ei_fld (ok := (fun c => c == 4)) (okc1 ⟨T.cl_Unpacker, T.n_Unpacker_reader⟩) ei_var) ev_nil) (ei_c cr_int))) (sv_ret (ei_c cr_bl)) sv_next)
      (sv_seq (sv_drop (ei_bm jm_app (ei_fld (ok := (fun c => c == 4)) (okc1 ⟨T.cl_Unpacker, T.n_Unpacker_made⟩) ei_var) (ev_cons (ei_op j_add (ei_op j_mul (ei_c cr_int) ei_var) (ei_methN (c := 3) (ei_fld (ok := (fun c => c == 4)) (okc1 ⟨T.cl_Unpacker, T.n_Unpacker_reader⟩) ei_var) (ev_cons (ei_c cr_int) ev_nil))) ev_nil)))
      (sv_ret (ei_c cr_bl))))) h⟩)
@[irreducible] noncomputable def b_Unpacker_is_good : Ms :=
  (mSeq (mWh (mBl (mOp (fI0 fun i j => .bl (decide (i < j))) (mCB fLen (aCons (mFld (fun c => c == 4) "made" (mName 0)) aNil)) (mFld (fun c => c == 4) "many" (mName 0)))) (mSeq (mAsg 1 (mMethN 4 "next_symbol" m_Unpacker_next_symbol (mName 0) vNil))
  (mSeq (mIfS (mBl (mOp fIs (mName 1) (mC .non))) (mRet (mC (.bl false))) mNext)
  (mSeq (mIfS (mBl (mOp fEq (mName 1) (mC (.int 32)))) (mAsg 2 (mMethN 4 "take_back" m_Unpacker_take_back (mName 0) vNil)) (mAsg 2 (mMethN 4 "take_byte" m_Unpacker_take_byte (mName 0) (vCons (mName 1) vNil))))
  (mIfS (mNot (mTru (mName 2))) (mRet (mC (.bl false))) mNext)))))
  (mRet (mMethN 3 "ended" m_Reader_ended (mFld (fun c => c == 4) "reader" (mName 0)) vNil)))
noncomputable def m_Unpacker_is_good : Mf := mFn 1 3 b_Unpacker_is_good
theorem ok_Unpacker_is_good {P : Program} {w : World} {K : PySem.W.Frag} {mg : Str → Option Value} {base : Heap} (T : Tx K mg) : FnOk P w K mg base CX0 6 T.a_Unpacker_is_good T.d_Unpacker_is_good ["self"] (spM K (ctT T) m_Unpacker_is_good) :=
  T.F_Unpacker_is_good.ok sc_Unpacker_is_good (fun vs H Q E h => sp_len h) (fun cdv A outer s H vs Q E hr h => ⟨_, (pss_cons (ps_while PassesOwn.never (pt_cmpR op_lt (pe_callB (call_lenY (K := K) rfl) (by rfl) T.z_len PySem.boot_len (pa_cons (pe_fldZ (K := K) rfl (pv 0) rfl) pa_nil)) (pe_fldZ (K := K) rfl (pv 0) rfl) (nomark _)) (pss_cons (ps_set (i := 1) sc_Unpacker_is_good.nd rfl (by first | exact Or.inl rfl | exact Or.inr rfl) (pe_meth0Z (pv 0) T.cl_Unpacker T.M_Unpacker_next_symbol (ok_Unpacker_next_symbol T) (hr.mono (by decide)) T.b_Unpacker_next_symbol pass0))
      (pss_cons (ps_if (pt_cmpR op_isZ (pv 1) pe_non (nomark _)) (pss_one (ps_ret pe_bl)) pss_nil)
      (pss_cons (ps_if (pt_cmpR (op_eqZ (K := K) rfl hr.units) (pv 1) (pe_glob rfl T.m_BACK T.r_BACK) (nomark _)) (pss_one (ps_set (i := 2) sc_Unpacker_is_good.nd rfl (by first | exact Or.inl rfl | exact Or.inr rfl) (pe_meth0Z (pv 0) T.cl_Unpacker T.M_Unpacker_take_back (ok_Unpacker_take_back T) (hr.mono (by decide)) T.b_Unpacker_take_back pass0))) (pss_one (ps_set (i := 2) sc_Unpacker_is_good.nd rfl (by first | exact Or.inl rfl | exact Or.inr rfl) (pe_methZ (pv 0) T.cl_Unpacker T.M_Unpacker_take_byte (ok_Unpacker_take_byte T) (hr.mono (by decide)) T.b_Unpacker_take_byte pass0 (pa_cons (pv 1) pa_nil)))))
      (pss_one (ps_if (pt_not (pt_truthZ (K := K) rfl (pv 2) (by intro _; rfl))) (pss_one (ps_ret pe_bl)) pss_nil))))))
      (pss_one (ps_ret (pe_meth0Z (pe_fldZ (K := K) rfl (pv 0) rfl) T.cl_Reader T.M_Reader_ended (ok_Reader_ended T) (hr.mono (by decide)) T.b_Reader_ended pass0)))),
    fn_run (np := 1) (N := ["self", "symbol", "good"]) (body := b_Unpacker_is_good) (by unfold b_Unpacker_is_good; exact (sv_seq (sv_while (et_tst (ei_op (j_I0 fun _ _ => cr_bl) (ei_cb jb_len (ea_cons (ei_fld (ok := (fun c => c == 4)) (okc1 ⟨T.cl_Unpacker, T.n_Unpacker_made⟩) ei_var) ea_nil)) (ei_fld (ok := (fun c => c == 4)) (okc1 ⟨T.cl_Unpacker, T.n_Unpacker_many⟩) ei_var))) (sv_seq (sv_asg (ei_methN (c := 4) ei_var ev_nil))
      (sv_seq (sv_if (et_tst (ei_op j_is ei_var (ei_c cr_non))) (sv_ret (ei_c cr_bl)) sv_next)
      (sv_seq (sv_if (et_tst (ei_op j_eq ei_var (ei_c cr_int))) (sv_asg (ei_methN (c := 4) ei_var ev_nil)) (sv_asg (ei_methN (c := 4) ei_var (ev_cons ei_var ev_nil))))
      (sv_if (et_not (et_tru ei_var)) (sv_ret (ei_c cr_bl)) sv_next)))))
      (sv_ret (ei_methN (c := 3) (ei_fld (ok := (fun c => c == 4)) (okc1 ⟨T.cl_Unpacker, T.n_Unpacker_reader⟩) ei_var) ev_nil)))) h⟩)
@[irreducible] noncomputable def b_room_of : Ms :=
  (mRet (mCB (fInts gSum) (aCons (mLc [1] (mWL (mName 0)) (tgN 1) (mBl (mOp (fI0 fun i j => .bl (decide (j < i))) (mName 1) (mC (.int 0)))) (mOp (fI CShl fun i j => .int (i * 2 ^ j.toNat)) (mC (.int 1)) (mOp (fI0 fun i j => .int (i - j)) (mC (.int 15)) (mName 1)))) aNil)))
noncomputable def m_room_of : Mf := mFn 1 2 b_room_of
theorem ok_room_of {P : Program} {w : World} {K : PySem.W.Frag} {mg : Str → Option Value} {base : Heap} (T : Tx K mg) : FnOk P w K mg base CX0 1 T.a_room_of T.d_room_of ["lengths"] (spM K (ctT T) m_room_of) :=
  T.F_room_of.ok sc_room_of (fun vs H Q E h => sp_len h) (fun cdv A outer s H vs Q E hr h => ⟨_, (pss_one (ps_ret (pe_callB (cr_sumZ (K := K) rfl rfl) (by rfl) T.z_sum (by decide +kernel) (pa_cons (pe_lc (own := [("length", 1)]) rfl sc_room_of.nd (pi_listZ (K := K) rfl (pv 0)) (blkOk_by (N := ["lengths", "length"]) (sc := defScope s_room_of) (by decide +kernel)) (fun _ _ _ _ _ => (pg_name (i := 1) sc_room_of.nd rfl (by first | exact Or.inl rfl | exact Or.inr rfl))) (fun _ _ _ _ _ => (pts_one (pt_cmpR op_gt (pv 1) pe_int (nomark _)))) (fun _ _ _ _ _ => (pe_op op_shlW pe_int (pe_op op_sub (pe_glob rfl T.m_LONGEST T.r_LONGEST) (pv 1))))) pa_nil)))),
    fn_run (np := 1) (N := ["lengths", "length"]) (body := b_room_of) (by unfold b_room_of; exact (sv_ret (ei_cb jb_sum (ea_cons (ei_lc (ws := [1]) (jw_list ei_var) sg_name (by decide) (et_tst (ei_op (j_I0 fun _ _ => cr_bl) ei_var (ei_c cr_int))) (ei_op (j_I fun _ _ => cr_int) (ei_c cr_int) (ei_op (j_I0 fun _ _ => cr_int) (ei_c cr_int) ei_var))) ea_nil)))) h⟩)
@[irreducible] noncomputable def b_fits : Ms :=
  (mRet (mOp (fI0 fun i j => .bl (decide (i ≤ j))) (mCallN m_room_of (vCons (mName 0) vNil)) (mOp (fI CShl fun i j => .int (i * 2 ^ j.toNat)) (mC (.int 1)) (mC (.int 15)))))
noncomputable def m_fits : Mf := mFn 1 1 b_fits
theorem ok_fits {P : Program} {w : World} {K : PySem.W.Frag} {mg : Str → Option Value} {base : Heap} (T : Tx K mg) : FnOk P w K mg base CX0 2 T.a_fits T.d_fits ["lengths"] (spM K (ctT T) m_fits) :=
  T.F_fits.ok sc_fits (fun vs H Q E h => sp_len h) (fun cdv A outer s H vs Q E hr h => ⟨_, (pss_one (ps_ret (pe_cmpR op_le (pe_callZ (ok_room_of T) (hr.mono (by decide)) (by rfl) T.g_room_of T.F_room_of.kp T.b_room_of pass0 (pa_cons (pv 0) pa_nil)) (pe_op op_shlW pe_int (pe_glob rfl T.m_LONGEST T.r_LONGEST)) (nomark _)))),
    fn_run (np := 1) (N := ["lengths"]) (body := b_fits) (by unfold b_fits; exact (sv_ret (ei_op (j_I0 fun _ _ => cr_bl) (ei_callN (ev_cons ei_var ev_nil)) (ei_op (j_I fun _ _ => cr_int) (ei_c cr_int) (ei_c cr_int))))) h⟩)
@[irreducible] noncomputable def b_table_at : Ms :=
  (mSeq (mAsg 1 (mLc [2] (mRng1 (aCons (mC (.int 33)) aNil)) (tgN 2) mYes (mMethN 3 "take" m_Reader_take (mName 0) (vCons (mC (.int 4)) vNil))))
  (mSeq (mIfS (mOr (mBl (mOp fNe (mMethN 3 "take" m_Reader_take (mName 0) (vCons (mC (.int 4)) vNil)) (mC (.int 0)))) (mOr (mNot (mTru (mCallN m_fits (vCons (mName 1) vNil)))) (mNot (mTru (mCB (fBls fun bs => .bl (bs.any id)) (aCons (mLc [3] (mWL (mSl (mName 1) oNo (oSm (mC (.int 32))))) (tgN 3) mYes (mOp (fI0 fun i j => .bl (decide (j < i))) (mName 3) (mC (.int 0)))) aNil)))))) (mRet (mC .non)) mNext)
  (mRet (mName 1))))
noncomputable def m_table_at : Mf := mFn 1 4 b_table_at
theorem ok_table_at {P : Program} {w : World} {K : PySem.W.Frag} {mg : Str → Option Value} {base : Heap} (T : Tx K mg) : FnOk P w K mg base CX0 5 T.a_table_at T.d_table_at ["reader"] (spM K (ctT T) m_table_at) :=
  T.F_table_at.ok sc_table_at (fun vs H Q E h => sp_len h) (fun cdv A outer s H vs Q E hr h => ⟨_, (pss_cons (ps_setLc (i := 1) (own := [("symbol", 2)]) rfl sc_table_at.nd rfl rfl (sw_true rfl rfl rfl (by decide +kernel)) (pi_range1 rfl T.z_range (pa_cons (pe_glob rfl T.m_SYMBOLS T.r_SYMBOLS) pa_nil)) (blkOk_by (N := ["reader", "lengths", "symbol", "length"]) (sc := defScope s_table_at) (by decide +kernel)) (fun _ _ _ _ _ => (pg_name (i := 2) sc_table_at.nd rfl (by first | exact Or.inl rfl | exact Or.inr rfl))) (fun _ _ _ _ _ => pts_nil) (fun _ _ _ _ _ => (pe_methZ (pv 0) T.cl_Reader T.M_Reader_take (ok_Reader_take T) (hr.mono (by decide)) T.b_Reader_take pass0 (pa_cons pe_int pa_nil))))
      (pss_cons (ps_if (PW.pt (pw_or (pt_cmpR (op_neZ (K := K) rfl hr.units) (pe_methZ (pv 0) T.cl_Reader T.M_Reader_take (ok_Reader_take T) (hr.mono (by decide)) T.b_Reader_take pass0 (pa_cons pe_int pa_nil)) pe_int (nomark _)) (pw_or (pt_not (pt_truthZ (K := K) rfl (pe_callZ (ok_fits T) (hr.mono (by decide)) (by rfl) T.g_fits T.F_fits.kp T.b_fits pass0 (pa_cons (pv 1) pa_nil)) (by intro _; rfl))) (pw_or1 (pt_not (pt_truthZ (K := K) rfl (pe_callB (cr_anyZ (K := K) rfl rfl) (by rfl) T.z_any (by decide +kernel) (pa_cons (pe_lc (own := [("length", 3)]) rfl sc_table_at.nd (pi_listZ (K := K) rfl (pe_slice (sl_Z (K := K) rfl) (pv 1) po_none (po_some (pe_glob rfl T.m_BACK T.r_BACK)))) (blkOk_by (N := ["reader", "lengths", "symbol", "length"]) (sc := defScope s_table_at) (by decide +kernel)) (fun _ _ _ _ _ => (pg_name (i := 3) sc_table_at.nd rfl (by first | exact Or.inl rfl | exact Or.inr rfl))) (fun _ _ _ _ _ => pts_nil) (fun _ _ _ _ _ => (pe_cmpR op_gt (pv 3) pe_int (nomark _)))) pa_nil)) (by intro _; rfl))))))) (pss_one (ps_ret pe_non)) pss_nil)
      (pss_one (ps_ret (pv 1))))),
    fn_run (np := 1) (N := ["reader", "lengths", "symbol", "length"]) (body := b_table_at) (by unfold b_table_at; exact (sv_seq (sv_asg (ei_lc (ws := [2]) (jw_rng1 (ea_cons (ei_c cr_int) ea_nil)) sg_name (by decide) et_yes (ei_methN (c := 3) ei_var (ev_cons (ei_c cr_int) ev_nil))))
      (sv_seq (sv_if (et_or (et_tst (ei_op j_ne (ei_methN (c := 3) ei_var (ev_cons (ei_c cr_int) ev_nil)) (ei_c cr_int))) (et_or (et_not (et_tru (ei_callN (ev_cons ei_var ev_nil)))) (et_not (et_tru (ei_cb jb_any (ea_cons (ei_lc (ws := [3]) (jw_list (ei_sl ei_var eo_no (eo_sm (ei_c cr_int)))) sg_name (by decide) et_yes (ei_op (j_I0 fun _ _ => cr_bl) ei_var (ei_c cr_int))) ea_nil)))))) (sv_ret (ei_c cr_non)) sv_next)
      (sv_ret ei_var)))) h⟩)
@[irreducible] noncomputable def b_is_whole_tables : Ms :=
  (mRet (mAndV (mCB fIsi (aCons (mName 0) (aCons (mC (.ty "int")) aNil))) (mNotV (mCB fIsi (aCons (mName 0) (aCons (mC (.ty "bool")) aNil))))))
noncomputable def m_is_whole_tables : Mf := mFn 1 1 b_is_whole_tables
theorem ok_is_whole_tables {P : Program} {w : World} {K : PySem.W.Frag} {mg : Str → Option Value} {base : Heap} (T : Tx K mg) : FnOk P w K mg base CX0 1 T.a_is_whole_tables T.d_is_whole_tables ["thing"] (spM K (ctT T) m_is_whole_tables) :=
  T.F_is_whole_tables.ok sc_is_whole_tables (fun vs H Q E h => sp_len h) (fun cdv A outer s H vs Q E hr h => ⟨_, (pss_one (ps_ret (pe_and (pe_callB (call_isiZ (K := K) rfl) (by rfl) T.z_isinstance (by decide +kernel) (pa_cons (pv 0) (pa_cons (pe_bltn (v := .ty "int") rfl T.z_int (by decide +kernel) rfl) pa_nil))) (pe_one (pe_not (pe_callB (call_isiZ (K := K) rfl) (by rfl) T.z_isinstance (by decide +kernel) (pa_cons (pv 0) (pa_cons (pe_bltn (v := .ty "bool") rfl T.z_bool (by decide +kernel) rfl) pa_nil)))))))),
    fn_run (np := 1) (N := ["thing"]) (body := b_is_whole_tables) (by unfold b_is_whole_tables; exact (sv_ret (ei_andV (ei_cb jb_isi (ea_cons ei_var (ea_cons (ei_c cr_ty) ea_nil))) (ei_notV (ei_cb jb_isi (ea_cons ei_var (ea_cons (ei_c cr_ty) ea_nil))))))) h⟩)
@[irreducible] noncomputable def b_is_list_of : Ms :=
  (mSeq (mIfS (mOr (mNot (mTru (mCB fIsi (aCons (mName 0) (aCons (mC (.ty "list")) aNil))))) (mNot (mBl (mChain (fI0 fun i j => .bl (decide (i ≤ j))) (fI0 fun i j => .bl (decide (i ≤ j))) (mC (.int 1)) (mCB fLen (aCons (mName 0) aNil)) (mC (.int 64)))))) (mRet (mC (.bl false))) mNext)
  (mRet (mCB (fBls fun bs => .bl (bs.all id)) (aCons (mLc [3] (mWL (mName 0)) (tgN 3) mYes (mAndV (mCallN m_is_whole_tables (vCons (mName 3) vNil)) (mChain (fI0 fun i j => .bl (decide (i ≤ j))) (fI0 fun i j => .bl (decide (i ≤ j))) (mName 1) (mName 3) (mName 2)))) aNil))))
noncomputable def m_is_list_of : Mf := mFn 3 4 b_is_list_of
theorem ok_is_list_of {P : Program} {w : World} {K : PySem.W.Frag} {mg : Str → Option Value} {base : Heap} (T : Tx K mg) : FnOk P w K mg base CX0 2 T.a_is_list_of T.d_is_list_of ["thing", "low", "high"] (spM K (ctT T) m_is_list_of) :=
  T.F_is_list_of.ok sc_is_list_of (fun vs H Q E h => sp_len h) (fun cdv A outer s H vs Q E hr h => ⟨_, (pss_cons (ps_if (PW.pt (pw_or (pt_not (pt_truthZ (K := K) rfl (pe_callB (call_isiZ (K := K) rfl) (by rfl) T.z_isinstance (by decide +kernel) (pa_cons (pv 0) (pa_cons (pe_bltn (v := .ty "list") rfl T.z_list (by decide +kernel) rfl) pa_nil))) (by intro _; rfl))) (pw_or1 (pt_not (pt_chain op_le op_le pe_int (pe_callB (call_lenY (K := K) rfl) (by rfl) T.z_len PySem.boot_len (pa_cons (pv 0) pa_nil)) (pe_glob rfl T.m_MOST_SYMBOLS T.r_MOST_SYMBOLS)))))) (pss_one (ps_ret pe_bl)) pss_nil)
      (pss_one (ps_ret (pe_callB (cr_allZ (K := K) rfl rfl) (by rfl) T.z_all (by decide +kernel) (pa_cons (pe_lc (own := [("number", 3)]) rfl sc_is_list_of.nd (pi_listZ (K := K) rfl (pv 0)) (blkOk_by (N := ["thing", "low", "high", "number"]) (sc := defScope s_is_list_of) (by decide +kernel)) (fun _ _ _ _ _ => (pg_name (i := 3) sc_is_list_of.nd rfl (by first | exact Or.inl rfl | exact Or.inr rfl))) (fun _ _ _ _ _ => pts_nil) (fun _ _ _ _ _ => (pe_and (pe_callZ (ok_is_whole_tables T) (hr.mono (by decide)) (by rfl) T.g_is_whole_tables T.F_is_whole_tables.kp T.b_is_whole_tables pass0 (pa_cons (pv 3) pa_nil)) (pe_one (pe_chain op_le op_le (pv 1) (pv 3) (pv 2)))))) pa_nil))))),
    fn_run (np := 3) (N := ["thing", "low", "high", "number"]) (body := b_is_list_of) (by unfold b_is_list_of; exact (sv_seq (sv_if (et_or (et_not (et_tru (ei_cb jb_isi (ea_cons ei_var (ea_cons (ei_c cr_ty) ea_nil))))) (et_not (et_tst (ei_chain (j_I0 fun _ _ => cr_bl) (j_I0 fun _ _ => cr_bl) (ei_c cr_int) (ei_cb jb_len (ea_cons ei_var ea_nil)) (ei_c cr_int))))) (sv_ret (ei_c cr_bl)) sv_next)
      (sv_ret (ei_cb jb_all (ea_cons (ei_lc (ws := [3]) (jw_list ei_var) sg_name (by decide) et_yes (ei_andV (ei_callN (ev_cons ei_var ev_nil)) (ei_chain (j_I0 fun _ _ => cr_bl) (j_I0 fun _ _ => cr_bl) ei_var ei_var ei_var))) ea_nil))))) h⟩)
@[irreducible] noncomputable def b_check_lengths : Ms :=
  (mIfS (mOr (mNot (mTru (mCallN m_is_list_of (vCons (mName 0) (vCons (mC (.int 0)) (vCons (mC (.int 15)) vNil)))))) (mNot (mTru (mCallN m_fits (vCons (mName 0) vNil))))) (mRaise 2) mNext)
noncomputable def m_check_lengths : Mf := mFn 1 1 b_check_lengths
theorem ok_check_lengths {P : Program} {w : World} {K : PySem.W.Frag} {mg : Str → Option Value} {base : Heap} (T : Tx K mg) : FnOk P w K mg base (L2.CX P w) 3 T.a_check_lengths T.d_check_lengths ["lengths"] (spM K (ctT T) m_check_lengths) :=
  T.F_check_lengths.okX sc_check_lengths (fun vs H Q E h => sp_len h) (fun cdv A outer s H vs Q E hr h => ⟨_, (pss_one (ps_if (PW.pt (pw_or (pt_not (pt_truthZ (K := K) rfl (pe_callZ (ok_is_list_of T) (hr.mono (by decide)) (by rfl) T.g_is_list_of T.F_is_list_of.kp T.b_is_list_of pass0 (pa_cons (pv 0) (pa_cons pe_int (pa_cons (pe_glob rfl T.m_LONGEST T.r_LONGEST) pa_nil)))) (by intro _; rfl))) (pw_or1 (pt_not (pt_truthZ (K := K) rfl (pe_callZ (ok_fits T) (hr.mono (by decide)) (by rfl) T.g_fits T.F_fits.kp T.b_fits pass0 (pa_cons (pv 0) pa_nil)) (by intro _; rfl)))))) (pss_one (ps_raiseZ rfl (takes_of rfl rfl rfl rfl) PySem.F.excBase_ValueError T.x_BadTable T.g_BadTable T.k_BadTable (raises_own T.b_BadTable T.t_BadTable) (by rfl))) pss_nil)),
    fn_run (np := 1) (N := ["lengths"]) (body := b_check_lengths) (by unfold b_check_lengths; exact (sv_if (et_or (et_not (et_tru (ei_callN (ev_cons ei_var (ev_cons (ei_c cr_int) (ev_cons (ei_c cr_int) ev_nil)))))) (et_not (et_tru (ei_callN (ev_cons ei_var ev_nil))))) (sv_raise (c := 2)) sv_next)) h⟩)
@[irreducible] noncomputable def b_words_of : Ms :=
  (mSeq (mDrop (mCall m_check_lengths (vCons (mName 0) vNil)))
  (mSeq (mAsg 1 (mLc [4] (mWL (mName 0)) (tgN 4) mYes (mC .non)))
  (mSeq (mAsg 2 (mC (.int 0)))
  (mSeq (mAsg 3 (mC (.int 0)))
  (mSeq (mFor (mWL (mCB fSort (aCons (mLc [5, 4] (mWE (vCons (mName 0) vNil)) (tgT 2 (tgCons (tgN 5) (tgCons (tgN 4) tgNil))) mYes (mTup (vCons (mName 4) (vCons (mName 5) vNil)))) aNil))) (tgT 2 (tgCons (tgN 4) (tgCons (tgN 5) tgNil))) (mIfS (mBl (mOp (fI0 fun i j => .bl (decide (j < i))) (mName 4) (mC (.int 0)))) (mSeq (mIfS (mBl (mOp (fI0 fun i j => .bl (decide (j < i))) (mName 3) (mC (.int 0)))) (mAsg 2 (mOp (fI CShl fun i j => .int (i * 2 ^ j.toNat)) (mOp fAdd (mName 2) (mC (.int 1))) (mOp (fI0 fun i j => .int (i - j)) (mName 4) (mName 3)))) mNext)
  (mSeq (mAsgS (mName 1) (mName 5) (mTup (vCons (mName 4) (vCons (mName 2) vNil))))
  (mAsg 3 (mName 4)))) mNext))
  (mRet (mName 1)))))))
noncomputable def m_words_of : Mf := mFn 1 6 b_words_of
theorem ok_words_of {P : Program} {w : World} {K : PySem.W.Frag} {mg : Str → Option Value} {base : Heap} (T : Tx K mg) : FnOk P w K mg base (L2.CX P w) 4 T.a_words_of T.d_words_of ["lengths"] (spM K (ctT T) m_words_of) :=
  T.F_words_of.okX sc_words_of (fun vs H Q E h => sp_len h) (fun cdv A outer s H vs Q E hr h => ⟨_, (pss_cons (ps_expr (pe_callS (ok_check_lengths T) (hr.mono (by decide)) (by rfl) T.g_check_lengths T.F_check_lengths.kp T.b_check_lengths (fun σ => passAt (takes_of rfl rfl rfl rfl) σ) (pa_cons (pv 0) pa_nil)))
      (pss_cons (ps_setLc (i := 1) (own := [("length", 4)]) rfl sc_words_of.nd rfl rfl (sw_true rfl rfl rfl (by decide +kernel)) (pi_listZ (K := K) rfl (pv 0)) (blkOk_by (N := ["lengths", "found", "number", "last", "length", "symbol"]) (sc := defScope s_words_of) (by decide +kernel)) (fun _ _ _ _ _ => (pg_name (i := 4) sc_words_of.nd rfl (by first | exact Or.inl rfl | exact Or.inr rfl))) (fun _ _ _ _ _ => pts_nil) (fun _ _ _ _ _ => pe_non))
      (pss_cons (ps_set (i := 2) sc_words_of.nd rfl (by first | exact Or.inl rfl | exact Or.inr rfl) pe_int)
      (pss_cons (ps_set (i := 3) sc_words_of.nd rfl (by first | exact Or.inl rfl | exact Or.inr rfl) pe_int)
      (pss_cons (ps_for (passes_of rfl) rfl (pi_listZ (K := K) rfl (pe_callB (cr_sortY (K := K) rfl (u66 hr)) (by rfl) T.z_sorted (by decide +kernel) (pa_cons (pe_lc (own := [("symbol", 5), ("length", 4)]) rfl sc_words_of.nd (pi_enumZ (K := K) rfl rfl T.z_enumerate (pa_cons (pv 0) pa_nil)) (blkOk_by (N := ["lengths", "found", "number", "last", "length", "symbol"]) (sc := defScope s_words_of) (by decide +kernel)) (fun _ _ _ _ _ => (pg_tupZ (K := K) (n := 2) rfl rfl (pgs_cons (pg_name (i := 5) sc_words_of.nd rfl (by first | exact Or.inl rfl | exact Or.inr rfl)) (pgs_cons (pg_name (i := 4) sc_words_of.nd rfl (by first | exact Or.inl rfl | exact Or.inr rfl)) pgs_nil)))) (fun _ _ _ _ _ => pts_nil) (fun _ _ _ _ _ => (pe_tup (pa_cons (pv 4) (pa_cons (pv 5) pa_nil))))) pa_nil))) (pg_tupZ (K := K) (n := 2) rfl rfl (pgs_cons (pg_name (i := 4) sc_words_of.nd rfl (by first | exact Or.inl rfl | exact Or.inr rfl)) (pgs_cons (pg_name (i := 5) sc_words_of.nd rfl (by first | exact Or.inl rfl | exact Or.inr rfl)) pgs_nil))) (pss_one (ps_if (pt_cmpR op_gt (pv 4) pe_int (nomark _)) (pss_cons (ps_if (pt_cmpR op_gt (pv 3) pe_int (nomark _)) (pss_one (ps_set (i := 2) sc_words_of.nd rfl (by first | exact Or.inl rfl | exact Or.inr rfl) (pe_op op_shlW (pe_op (op_addZ (K := K) rfl) (pv 2) pe_int) (pe_op op_sub (pv 4) (pv 3))))) pss_nil)
      (pss_cons (ps_asg (pe_tup (pa_cons (pv 4) (pa_cons (pv 2) pa_nil))) (pg_sub (pv 1) (pv 5) (set_Y (hu_of hr))))
      (pss_one (ps_set (i := 3) sc_words_of.nd rfl (by first | exact Or.inl rfl | exact Or.inr rfl) (pv 4))))) pss_nil)))
      (pss_one (ps_ret (pv 1)))))))),
    fn_run (np := 1) (N := ["lengths", "found", "number", "last", "length", "symbol"]) (body := b_words_of) (by unfold b_words_of; exact (sv_seq (sv_drop (ei_callS (ev_cons ei_var ev_nil)))
      (sv_seq (sv_asg (ei_lc (ws := [4]) (jw_list ei_var) sg_name (by decide) et_yes (ei_c cr_non)))
      (sv_seq (sv_asg (ei_c cr_int))
      (sv_seq (sv_asg (ei_c cr_int))
      (sv_seq (sv_for (jw_list (ei_cb jb_sort (ea_cons (ei_lc (ws := [5, 4]) (jw_enum (ev_cons ei_var ev_nil)) (sg_tup (sgs_cons sg_name (sgs_cons sg_name sgs_nil))) (by decide) et_yes (ei_tup (ev_cons ei_var (ev_cons ei_var ev_nil)))) ea_nil))) (sg_tup (sgs_cons sg_name (sgs_cons sg_name sgs_nil))) (sv_if (et_tst (ei_op (j_I0 fun _ _ => cr_bl) ei_var (ei_c cr_int))) (sv_seq (sv_if (et_tst (ei_op (j_I0 fun _ _ => cr_bl) ei_var (ei_c cr_int))) (sv_asg (ei_op (j_I fun _ _ => cr_int) (ei_op j_add ei_var (ei_c cr_int)) (ei_op (j_I0 fun _ _ => cr_int) ei_var ei_var))) sv_next)
      (sv_seq (sv_asgS (ei_tup (ev_cons ei_var (ev_cons ei_var ev_nil))) ei_var ei_var)
      (sv_asg ei_var))) sv_next))
      (sv_ret ei_var))))))) h⟩)
@[irreducible] noncomputable def b_packed_at : Ms :=
  (mSeq (mIfS (mOr (mBl (mOp fEq (mName 2) (mC (.int 0)))) (mBl (mOp (fI0 fun i j => .bl (decide (j < i))) (mOp fAdd (mName 1) (mC (.int 17))) (mCB fLen (aCons (mName 0) aNil))))) (mRet (mC .non)) mNext)
  (mSeq (mAsg 3 (mMakeN 3 m_Reader_init [] (vCons (mName 0) (vCons (mName 1) vNil))))
  (mSeq (mAsg 4 (mCallN m_table_at (vCons (mName 3) vNil)))
  (mSeq (mIfS (mBl (mOp fIs (mName 4) (mC .non))) (mRet (mC .non)) mNext)
  (mSeq (mAsg 5 (mMakeN 4 m_Unpacker_init [] (vCons (mName 3) (vCons (mCallN m_words_of (vCons (mName 4) vNil)) (vCons (mName 2) vNil)))))
  (mSeq (mIfS (mNot (mTru (mMethN 4 "is_good" m_Unpacker_is_good (mName 5) vNil))) (mRet (mC .non)) mNext)
  (mRet (mTup (vCons (mFld (fun c => c == 4) "made" (mName 5)) (vCons (mMethN 3 "place" m_Reader_place (mName 3) vNil) vNil))))))))))
noncomputable def m_packed_at : Mf := mFn 3 6 b_packed_at
theorem ok_packed_at {P : Program} {w : World} {K : PySem.W.Frag} {mg : Str → Option Value} {base : Heap} (T : Tx K mg) : FnOk P w K mg base CX0 7 T.a_packed_at T.d_packed_at ["row", "place", "many"] (spM K (ctT T) m_packed_at) :=
  T.F_packed_at.ok sc_packed_at (fun vs H Q E h => sp_len h) (fun cdv A outer s H vs Q E hr h => ⟨_, (pss_cons (ps_if (PW.pt (pw_or (pt_cmpR (op_eqZ (K := K) rfl hr.units) (pv 2) pe_int (nomark _)) (pw_or1 (pt_cmpR op_gt (pe_op (op_addZ (K := K) rfl) (pv 1) (pe_glob rfl T.m_TABLE_BYTES T.r_TABLE_BYTES)) (pe_callB (call_lenY (K := K) rfl) (by rfl) T.z_len PySem.boot_len (pa_cons (pv 0) pa_nil)) (nomark _))))) (pss_one (ps_ret pe_non)) pss_nil)
      (pss_cons (ps_set (i := 3) sc_packed_at.nd rfl (by first | exact Or.inl rfl | exact Or.inr rfl) (pe_make T.K_Reader (ok_Reader_init T) (hr.mono (by decide)) (by rfl) T.g_Reader T.b_Reader_init .nil pass0 (pa_cons (pv 0) (pa_cons (pv 1) pa_nil))))
      (pss_cons (ps_set (i := 4) sc_packed_at.nd rfl (by first | exact Or.inl rfl | exact Or.inr rfl) (pe_callZ (ok_table_at T) (hr.mono (by decide)) (by rfl) T.g_table_at T.F_table_at.kp T.b_table_at pass0 (pa_cons (pv 3) pa_nil)))
      (pss_cons (ps_if (pt_cmpR op_isZ (pv 4) pe_non (nomark _)) (pss_one (ps_ret pe_non)) pss_nil)
      (pss_cons (ps_set (i := 5) sc_packed_at.nd rfl (by first | exact Or.inl rfl | exact Or.inr rfl) (pe_make T.K_Unpacker (ok_Unpacker_init T) (hr.mono (by decide)) (by rfl) T.g_Unpacker T.b_Unpacker_init .nil pass0 (pa_cons (pv 3) (pa_cons (pe_callZ (ok_words_of T) (hr.mono (by decide)) (by rfl) T.g_words_of T.F_words_of.kp T.b_words_of passL (pa_cons (pv 4) pa_nil)) (pa_cons (pv 2) pa_nil)))))
      (pss_cons (ps_if (pt_not (pt_truthZ (K := K) rfl (pe_meth0Z (pv 5) T.cl_Unpacker T.M_Unpacker_is_good (ok_Unpacker_is_good T) (hr.mono (by decide)) T.b_Unpacker_is_good pass0) (by intro _; rfl))) (pss_one (ps_ret pe_non)) pss_nil)
      (pss_one (ps_ret (pe_tup (pa_cons (pe_fldZ (K := K) rfl (pv 5) rfl) (pa_cons (pe_meth0Z (pv 3) T.cl_Reader T.M_Reader_place (ok_Reader_place T) (hr.mono (by decide)) T.b_Reader_place pass0) pa_nil))))))))))),
    fn_run (np := 3) (N := ["row", "place", "many", "reader", "lengths", "unpacker"]) (body := b_packed_at) (by unfold b_packed_at; exact (sv_seq (sv_if (et_or (et_tst (ei_op j_eq ei_var (ei_c cr_int))) (et_tst (ei_op (j_I0 fun _ _ => cr_bl) (ei_op j_add ei_var (ei_c cr_int)) (ei_cb jb_len (ea_cons ei_var ea_nil))))) (sv_ret (ei_c cr_non)) sv_next)
      (sv_seq (sv_asg (ei_makeN (c := 3) (dds := []) crl_nil (ev_cons ei_var (ev_cons ei_var ev_nil))))
      (sv_seq (sv_asg (ei_callN (ev_cons ei_var ev_nil)))
      (sv_seq (sv_if (et_tst (ei_op j_is ei_var (ei_c cr_non))) (sv_ret (ei_c cr_non)) sv_next)
      (sv_seq (sv_asg (ei_makeN (c := 4) (dds := []) crl_nil (ev_cons ei_var (ev_cons (ei_callN (ev_cons ei_var ev_nil)) (ev_cons ei_var ev_nil)))))
      (sv_seq (sv_if (et_not (et_tru (ei_methN (c := 4) ei_var ev_nil))) (sv_ret (ei_c cr_non)) sv_next)
      (sv_ret (ei_tup (ev_cons (ei_fld (ok := (fun c => c == 4)) (okc1 ⟨T.cl_Unpacker, T.n_Unpacker_made⟩) ei_var) (ev_cons (ei_methN (c := 3) ei_var ev_nil) ev_nil))))))))))) h⟩)
@[irreducible] noncomputable def b_body_at : Ms :=
  (mSeq (mIfS (mBl (mOp fEq (mName 2) (mC (.int 1)))) (mRet (mCallN m_packed_at (vCons (mName 0) (vCons (mName 1) (vCons (mName 3) vNil))))) mNext)
  (mSeq (mIfS (mOr (mBl (mOp fNe (mName 2) (mC (.int 0)))) (mBl (mOp (fI0 fun i j => .bl (decide (j < i))) (mOp fAdd (mName 1) (mName 3)) (mCB fLen (aCons (mName 0) aNil))))) (mRet (mC .non)) mNext)
  (mRet (mTup (vConsK (mCB fList (aCons (mSl (mName 0) (oSm (mName 1)) (oSm (mOp fAdd (mName 1) (mName 3)))) aNil)) (vConsK (mOp fAdd (mName 1) (mName 3)) vNil))))))
noncomputable def m_body_at : Mf := mFn 4 4 b_body_at
theorem ok_body_at {P : Program} {w : World} {K : PySem.W.Frag} {mg : Str → Option Value} {base : Heap} (T : Tx K mg) : FnOk P w K mg base CX0 8 T.a_body_at T.d_body_at ["row", "place", "kind", "many"] (spM K (ctT T) m_body_at) :=
  T.F_body_at.ok sc_body_at (fun vs H Q E h => sp_len h) (fun cdv A outer s H vs Q E hr h => ⟨_, (pss_cons (ps_if (pt_cmpR (op_eqZ (K := K) rfl hr.units) (pv 2) (pe_glob rfl T.m_PACKED T.r_PACKED) (nomark _)) (pss_one (ps_ret (pe_callZ (ok_packed_at T) (hr.mono (by decide)) (by rfl) T.g_packed_at T.F_packed_at.kp T.b_packed_at pass0 (pa_cons (pv 0) (pa_cons (pv 1) (pa_cons (pv 3) pa_nil)))))) pss_nil)
      (pss_cons (ps_if (PW.pt (pw_or (pt_cmpR (op_neZ (K := K) rfl hr.units) (pv 2) (pe_glob rfl T.m_PLAIN T.r_PLAIN) (nomark _)) (pw_or1 (pt_cmpR op_gt (pe_op (op_addZ (K := K) rfl) (pv 1) (pv 3)) (pe_callB (call_lenY (K := K) rfl) (by rfl) T.z_len PySem.boot_len (pa_cons (pv 0) pa_nil)) (nomark _))))) (pss_one (ps_ret pe_non)) pss_nil)
      (pss_one (ps_ret (pe_tup (pa_cons (pe_callTy (call_listZ (K := K) rfl) (by rfl) T.z_list (by decide +kernel) (pa_cons (pe_slice (sl_Z (K := K) rfl) (pv 0) (po_some (pv 1)) (po_some (pe_op (op_addZ (K := K) rfl) (pv 1) (pv 3)))) pa_nil)) (pa_cons (pe_op (op_addZ (K := K) rfl) (pv 1) (pv 3)) pa_nil))))))),
    fn_run (np := 4) (N := ["row", "place", "kind", "many"]) (body := b_body_at) (by unfold b_body_at; exact (sv_seq (sv_if (et_tst (ei_op j_eq ei_var (ei_c cr_int))) (sv_ret (ei_callN (ev_cons ei_var (ev_cons ei_var (ev_cons ei_var ev_nil))))) sv_next)
      (sv_seq (sv_if (et_or (et_tst (ei_op j_ne ei_var (ei_c cr_int))) (et_tst (ei_op (j_I0 fun _ _ => cr_bl) (ei_op j_add ei_var ei_var) (ei_cb jb_len (ea_cons ei_var ea_nil))))) (sv_ret (ei_c cr_non)) sv_next)
      (sv_ret (ei_tup (ev_consK (ei_cb jb_list (ea_cons (ei_sl ei_var (eo_sm ei_var) (eo_sm (ei_op j_add ei_var ei_var))) ea_nil)) (ev_consK (ei_op j_add ei_var ei_var) ev_nil))))))) h⟩)
@[irreducible] noncomputable def b_crc_on : Ms :=
  (mSeq (mAsg 2 (mName 0))
  (mSeq (mFor (mWL (mName 1)) (tgN 3) (mSeq (mAsg 2 (mOp (fI0 fun i j => .int (Builtin.bitXor i j)) (mName 2) (mOp (fI CShl fun i j => .int (i * 2 ^ j.toNat)) (mName 3) (mC (.int 8)))))
  (mFor (mRng1 (aCons (mC (.int 8)) aNil)) (tgN 4) (mIfS (mTru (mOp (fI0 fun i j => .int (Builtin.bitAnd i j)) (mName 2) (mC (.int 32768)))) (mAsg 2 (mOp (fI0 fun i j => .int (Builtin.bitXor i j)) (mOp (fI CShl fun i j => .int (i * 2 ^ j.toNat)) (mOp (fI0 fun i j => .int (Builtin.bitXor i j)) (mName 2) (mC (.int 32768))) (mC (.int 1))) (mC (.int 4129)))) (mAsg 2 (mOp (fI CShl fun i j => .int (i * 2 ^ j.toNat)) (mName 2) (mC (.int 1))))))))
  (mRet (mName 2))))
noncomputable def m_crc_on : Mf := mFn 2 5 b_crc_on
theorem ok_crc_on {P : Program} {w : World} {K : PySem.W.Frag} {mg : Str → Option Value} {base : Heap} (T : Tx K mg) : FnOk P w K mg base CX0 1 T.a_crc_on T.d_crc_on ["begun", "row"] (spM K (ctT T) m_crc_on) :=
  T.F_crc_on.ok sc_crc_on (fun vs H Q E h => sp_len h) (fun cdv A outer s H vs Q E hr h => ⟨_, (pss_cons (ps_set (i := 2) sc_crc_on.nd rfl (by first | exact Or.inl rfl | exact Or.inr rfl) (pv 0))
      (pss_cons (ps_for PassesOwn.never rfl (pi_listZ (K := K) rfl (pv 1)) (pg_name (i := 3) sc_crc_on.nd rfl (by first | exact Or.inl rfl | exact Or.inr rfl)) (pss_cons (ps_set (i := 2) sc_crc_on.nd rfl (by first | exact Or.inl rfl | exact Or.inr rfl) (pe_op op_xor (pv 2) (pe_op op_shlW (pv 3) pe_int)))
      (pss_one (ps_for PassesOwn.never rfl (pi_range1 rfl T.z_range (pa_cons pe_int pa_nil)) (pg_name (i := 4) sc_crc_on.nd rfl (by first | exact Or.inl rfl | exact Or.inr rfl)) (pss_one (ps_if (pt_truthZ (K := K) rfl (pe_op op_and (pv 2) (pe_glob rfl T.m_TOP T.r_TOP)) (by intro _; rfl)) (pss_one (ps_set (i := 2) sc_crc_on.nd rfl (by first | exact Or.inl rfl | exact Or.inr rfl) (pe_op op_xor (pe_op op_shlW (pe_op op_xor (pv 2) (pe_glob rfl T.m_TOP T.r_TOP)) pe_int) (pe_glob rfl T.m_FEED T.r_FEED)))) (pss_one (ps_set (i := 2) sc_crc_on.nd rfl (by first | exact Or.inl rfl | exact Or.inr rfl) (pe_op op_shlW (pv 2) pe_int)))))))))
      (pss_one (ps_ret (pv 2))))),
    fn_run (np := 2) (N := ["begun", "row", "found", "byte", "k"]) (body := b_crc_on) (by unfold b_crc_on; exact (sv_seq (sv_asg ei_var)
      (sv_seq (sv_for (jw_list ei_var) sg_name (sv_seq (sv_asg (ei_op (j_I0 fun _ _ => cr_int) ei_var (ei_op (j_I fun _ _ => cr_int) ei_var (ei_c cr_int))))
      (sv_for (jw_rng1 (ea_cons (ei_c cr_int) ea_nil)) sg_name (sv_if (et_tru (ei_op (j_I0 fun _ _ => cr_int) ei_var (ei_c cr_int))) (sv_asg (ei_op (j_I0 fun _ _ => cr_int) (ei_op (j_I fun _ _ => cr_int) (ei_op (j_I0 fun _ _ => cr_int) ei_var (ei_c cr_int)) (ei_c cr_int)) (ei_c cr_int))) (sv_asg (ei_op (j_I fun _ _ => cr_int) ei_var (ei_c cr_int)))))))
      (sv_ret ei_var)))) h⟩)
@[irreducible] noncomputable def b_crc : Ms :=
  (mRet (mCallN m_crc_on (vCons (mC (.int 65535)) (vCons (mName 0) vNil))))
noncomputable def m_crc : Mf := mFn 1 1 b_crc
theorem ok_crc {P : Program} {w : World} {K : PySem.W.Frag} {mg : Str → Option Value} {base : Heap} (T : Tx K mg) : FnOk P w K mg base CX0 2 T.a_crc T.d_crc ["row"] (spM K (ctT T) m_crc) :=
  T.F_crc.ok sc_crc (fun vs H Q E h => sp_len h) (fun cdv A outer s H vs Q E hr h => ⟨_, (pss_one (ps_ret (pe_callZ (ok_crc_on T) (hr.mono (by decide)) (by rfl) T.g_crc_on T.F_crc_on.kp T.b_crc_on pass0 (pa_cons (pe_glob rfl T.m_BEGIN T.r_BEGIN) (pa_cons (pv 0) pa_nil))))),
    fn_run (np := 1) (N := ["row"]) (body := b_crc) (by unfold b_crc; exact (sv_ret (ei_callN (ev_cons (ei_c cr_int) (ev_cons ei_var ev_nil))))) h⟩)
@[irreducible] noncomputable def b_crc_row : Ms :=
  (mSeq (mAsg 1 (mCallN m_crc (vCons (mName 0) vNil)))
  (mRet (mLst (vCons (mOp (fI (fun _ j => 0 ≤ j) fun i j => .int (i / 2 ^ j.toNat)) (mName 1) (mC (.int 8))) (vCons (mOp (fI0 fun i j => .int (Builtin.bitAnd i j)) (mName 1) (mC (.int 255))) vNil)))))
noncomputable def m_crc_row : Mf := mFn 1 2 b_crc_row
theorem ok_crc_row {P : Program} {w : World} {K : PySem.W.Frag} {mg : Str → Option Value} {base : Heap} (T : Tx K mg) : FnOk P w K mg base CX0 3 T.a_crc_row T.d_crc_row ["row"] (spM K (ctT T) m_crc_row) :=
  T.F_crc_row.ok sc_crc_row (fun vs H Q E h => sp_len h) (fun cdv A outer s H vs Q E hr h => ⟨_, (pss_cons (ps_set (i := 1) sc_crc_row.nd rfl (by first | exact Or.inl rfl | exact Or.inr rfl) (pe_callZ (ok_crc T) (hr.mono (by decide)) (by rfl) T.g_crc T.F_crc.kp T.b_crc pass0 (pa_cons (pv 0) pa_nil)))
      (pss_one (ps_ret (pe_lst (pa_cons (pe_op op_shr (pv 1) pe_int) (pa_cons (pe_op op_and (pv 1) pe_int) pa_nil)))))),
    fn_run (np := 1) (N := ["row", "found"]) (body := b_crc_row) (by unfold b_crc_row; exact (sv_seq (sv_asg (ei_callN (ev_cons ei_var ev_nil)))
      (sv_ret (ei_lst (ev_cons (ei_op (j_I fun _ _ => cr_int) ei_var (ei_c cr_int)) (ev_cons (ei_op (j_I0 fun _ _ => cr_int) ei_var (ei_c cr_int)) ev_nil)))))) h⟩)
@[irreducible] noncomputable def b_piece_at : Ms :=
  (mSeq (mAsg 2 (mSl (mName 0) (oSm (mName 1)) (oSm (mOp fAdd (mName 1) (mC (.int 6))))))
  (mSeq (mIfS (mOr (mBl (mOp (fI0 fun i j => .bl (decide (i < j))) (mCB fLen (aCons (mName 2) aNil)) (mC (.int 6)))) (mOr (mBl (mOp fNe (mCB fList (aCons (mSl (mName 2) oNo (oSm (mC (.int 2)))) aNil)) (mC (.clst (List.map D.int [165, 90]))))) (mOr (mBl (mOp (fI0 fun i j => .bl (decide (j < i))) (mOp fIxY (mName 2) (mC (.int 3))) (mC (.int 254)))) (mBl (mOp (fI0 fun i j => .bl (decide (j < i))) (mOp fIxY (mName 2) (mC (.int 4))) (mC (.int 254))))))) (mRet (mC .non)) mNext)
  (mSeq (mAsg 3 (mCallN m_body_at (vCons (mName 0) (vCons (mOp fAdd (mName 1) (mC (.int 6))) (vCons (mOp fIxY (mName 2) (mC (.int 2))) (vCons (mOp fIxY (mName 2) (mC (.int 5))) vNil))))))
  (mSeq (mIfS (mBl (mOp fIs (mName 3) (mC .non))) (mRet (mC .non)) mNext)
  (mSeq (mAsgT (tgT 2 (tgCons (tgN 4) (tgCons (tgN 5) tgNil))) (mName 3))
  (mSeq (mIfS (mBl (mOp fNe (mCB fList (aCons (mSl (mName 0) (oSm (mName 5)) (oSm (mOp fAdd (mName 5) (mC (.int 2))))) aNil)) (mCallN m_crc_row (vCons (mSl (mName 0) (oSm (mOp fAdd (mName 1) (mC (.int 2)))) (oSm (mName 5))) vNil)))) (mRet (mC .non)) mNext)
  (mRet (mTup (vCons (mOp fIxY (mName 2) (mC (.int 2))) (vCons (mOp fIxY (mName 2) (mC (.int 3))) (vCons (mOp fIxY (mName 2) (mC (.int 4))) (vCons (mName 4) (vCons (mOp fAdd (mName 5) (mC (.int 2))) vNil)))))))))))))
noncomputable def m_piece_at : Mf := mFn 2 6 b_piece_at
theorem ok_piece_at {P : Program} {w : World} {K : PySem.W.Frag} {mg : Str → Option Value} {base : Heap} (T : Tx K mg) : FnOk P w K mg base CX0 9 T.a_piece_at T.d_piece_at ["row", "place"] (spM K (ctT T) m_piece_at) :=
  T.F_piece_at.ok sc_piece_at (fun vs H Q E h => sp_len h) (fun cdv A outer s H vs Q E hr h => ⟨_, (pss_cons (ps_set (i := 2) sc_piece_at.nd rfl (by first | exact Or.inl rfl | exact Or.inr rfl) (pe_slice (sl_Z (K := K) rfl) (pv 0) (po_some (pv 1)) (po_some (pe_op (op_addZ (K := K) rfl) (pv 1) pe_int))))
      (pss_cons (ps_if (PW.pt (pw_or (pt_cmpR op_lt (pe_callB (call_lenY (K := K) rfl) (by rfl) T.z_len PySem.boot_len (pa_cons (pv 2) pa_nil)) pe_int (nomark _)) (pw_or (pt_cmpR (op_neZ (K := K) rfl hr.units) (pe_callTy (call_listZ (K := K) rfl) (by rfl) T.z_list (by decide +kernel) (pa_cons (pe_slice (sl_Z (K := K) rfl) (pv 2) po_none (po_some pe_int)) pa_nil)) (pe_glob (v := .ref T.u_MARK) rfl T.m_MARK rfl) (nomark _)) (pw_or (pt_cmpR op_gt (pe_ix (ix_Y (K := K) rfl (hu_of hr)) (pv 2) pe_int (fun _ _ => rfl)) (pe_glob rfl T.m_MOST_NUMBER T.r_MOST_NUMBER) (nomark _)) (pw_or1 (pt_cmpR op_gt (pe_ix (ix_Y (K := K) rfl (hu_of hr)) (pv 2) pe_int (fun _ _ => rfl)) (pe_glob rfl T.m_MOST_NUMBER T.r_MOST_NUMBER) (nomark _))))))) (pss_one (ps_ret pe_non)) pss_nil)
      (pss_cons (ps_set (i := 3) sc_piece_at.nd rfl (by first | exact Or.inl rfl | exact Or.inr rfl) (pe_callZ (ok_body_at T) (hr.mono (by decide)) (by rfl) T.g_body_at T.F_body_at.kp T.b_body_at pass0 (pa_cons (pv 0) (pa_cons (pe_op (op_addZ (K := K) rfl) (pv 1) pe_int) (pa_cons (pe_ix (ix_Y (K := K) rfl (hu_of hr)) (pv 2) pe_int (fun _ _ => rfl)) (pa_cons (pe_ix (ix_Y (K := K) rfl (hu_of hr)) (pv 2) pe_int (fun _ _ => rfl)) pa_nil))))))
      (pss_cons (ps_if (pt_cmpR op_isZ (pv 3) pe_non (nomark _)) (pss_one (ps_ret pe_non)) pss_nil)
      (pss_cons (ps_asg (pv 3) (pg_tupZ (K := K) (n := 2) rfl rfl (pgs_cons (pg_name (i := 4) sc_piece_at.nd rfl (by first | exact Or.inl rfl | exact Or.inr rfl)) (pgs_cons (pg_name (i := 5) sc_piece_at.nd rfl (by first | exact Or.inl rfl | exact Or.inr rfl)) pgs_nil))))
      (pss_cons (ps_if (pt_cmpR (op_neZ (K := K) rfl hr.units) (pe_callTy (call_listZ (K := K) rfl) (by rfl) T.z_list (by decide +kernel) (pa_cons (pe_slice (sl_Z (K := K) rfl) (pv 0) (po_some (pv 5)) (po_some (pe_op (op_addZ (K := K) rfl) (pv 5) pe_int))) pa_nil)) (pe_callZ (ok_crc_row T) (hr.mono (by decide)) (by rfl) T.g_crc_row T.F_crc_row.kp T.b_crc_row pass0 (pa_cons (pe_slice (sl_Z (K := K) rfl) (pv 0) (po_some (pe_op (op_addZ (K := K) rfl) (pv 1) pe_int)) (po_some (pv 5))) pa_nil)) (nomark _)) (pss_one (ps_ret pe_non)) pss_nil)
      (pss_one (ps_ret (pe_tup (pa_cons (pe_ix (ix_Y (K := K) rfl (hu_of hr)) (pv 2) pe_int (fun _ _ => rfl)) (pa_cons (pe_ix (ix_Y (K := K) rfl (hu_of hr)) (pv 2) pe_int (fun _ _ => rfl)) (pa_cons (pe_ix (ix_Y (K := K) rfl (hu_of hr)) (pv 2) pe_int (fun _ _ => rfl)) (pa_cons (pv 4) (pa_cons (pe_op (op_addZ (K := K) rfl) (pv 5) pe_int) pa_nil)))))))))))))),
    fn_run (np := 2) (N := ["row", "place", "head", "found", "told", "behind"]) (body := b_piece_at) (by unfold b_piece_at; exact (sv_seq (sv_asg (ei_sl ei_var (eo_sm ei_var) (eo_sm (ei_op j_add ei_var (ei_c cr_int)))))
      (sv_seq (sv_if (et_or (et_tst (ei_op (j_I0 fun _ _ => cr_bl) (ei_cb jb_len (ea_cons ei_var ea_nil)) (ei_c cr_int))) (et_or (et_tst (ei_op j_ne (ei_cb jb_list (ea_cons (ei_sl ei_var eo_no (eo_sm (ei_c cr_int))) ea_nil)) (ei_c (cr_kl T.r_MARK)))) (et_or (et_tst (ei_op (j_I0 fun _ _ => cr_bl) (ei_op j_ixY ei_var (ei_c cr_int)) (ei_c cr_int))) (et_tst (ei_op (j_I0 fun _ _ => cr_bl) (ei_op j_ixY ei_var (ei_c cr_int)) (ei_c cr_int)))))) (sv_ret (ei_c cr_non)) sv_next)
      (sv_seq (sv_asg (ei_callN (ev_cons ei_var (ev_cons (ei_op j_add ei_var (ei_c cr_int)) (ev_cons (ei_op j_ixY ei_var (ei_c cr_int)) (ev_cons (ei_op j_ixY ei_var (ei_c cr_int)) ev_nil))))))
      (sv_seq (sv_if (et_tst (ei_op j_is ei_var (ei_c cr_non))) (sv_ret (ei_c cr_non)) sv_next)
      (sv_seq (sv_asgT (sg_tup (sgs_cons sg_name (sgs_cons sg_name sgs_nil))) ei_var)
      (sv_seq (sv_if (et_tst (ei_op j_ne (ei_cb jb_list (ea_cons (ei_sl ei_var (eo_sm ei_var) (eo_sm (ei_op j_add ei_var (ei_c cr_int)))) ea_nil)) (ei_callN (ev_cons (ei_sl ei_var (eo_sm (ei_op j_add ei_var (ei_c cr_int))) (eo_sm ei_var)) ev_nil)))) (sv_ret (ei_c cr_non)) sv_next)
      (sv_ret (ei_tup (ev_cons (ei_op j_ixY ei_var (ei_c cr_int)) (ev_cons (ei_op j_ixY ei_var (ei_c cr_int)) (ev_cons (ei_op j_ixY ei_var (ei_c cr_int)) (ev_cons ei_var (ev_cons (ei_op j_add ei_var (ei_c cr_int)) ev_nil)))))))))))))) h⟩)
@[irreducible] noncomputable def b_law : Ms :=
  (mSeq (mFor (mWL (mSl (mName 0) oNo (oSm (mC (.int 3))))) (tgN 1) (mSeq (mAsgK 2 (mCallN m_l_draw (vCons (mName 1) vNil)))
  (mSeq (mAsg 3 (mLst vNil))
  (mSeq (mFor (mRng1 (aCons (mOp fAdd (mC (.int 1)) (mCallN m_l_next (vCons (mName 2) (vCons (mC (.int 2)) vNil)))) aNil)) (tgN 4) (mSeq (mFor (mRng1 (aCons (mCallN m_l_next (vCons (mName 2) (vCons (mC (.int 9)) vNil))) aNil)) (tgN 5) (mDrop (mBM fApp (mName 3) (vCons (mOp fIxY (mLst (vCons (mC (.int 165)) (vCons (mC (.int 90)) (vCons (mC (.int 0)) (vCons (mC (.int 1)) (vCons (mCallN m_l_next (vCons (mName 2) (vCons (mC (.int 256)) vNil))) vNil)))))) (mCallN m_l_next (vCons (mName 2) (vCons (mC (.int 5)) vNil)))) vNil))))
  (mAsg 3 (mOp fAdd (mName 3) (mCallN m_l_piece (vCons (mName 2) vNil))))))
  (mSeq (mAsg 3 (mOp fAdd (mName 3) (mLc [4] (mRng1 (aCons (mCallN m_l_next (vCons (mName 2) (vCons (mC (.int 5)) vNil))) aNil)) (tgN 4) mYes (mOp fIxY (mLst (vCons (mC (.int 165)) (vCons (mC (.int 90)) (vCons (mC (.int 0)) vNil)))) (mCallN m_l_next (vCons (mName 2) (vCons (mC (.int 3)) vNil)))))))
  (mSeq (mAsg 6 (mCB fList (aCons (mName 3) aNil)))
  (mSeq (mFor (mRng1 (aCons (mOp fAdd (mCB fLen (aCons (mName 3) aNil)) (mC (.int 2))) aNil)) (tgN 7) (mSeq (mAsg 8 (mCallN m_l_due (vCons (mName 3) (vCons (mName 7) vNil))))
  (mSeq (mAsg 9 (mCallT m_piece_at (vCons (mName 6) (vCons (mName 7) vNil))))
  (mSeq (mIfS (mOr (mBl (mOp fNeR (mName 9) (mName 8))) (mAnd (mBl (mOp fIsn (mName 9) (mC .non))) (mNot (mTru (mCB fIsi (aCons (mOp fIxY (mName 9) (mC (.int 3))) (aCons (mC (.ty "list")) aNil))))))) (mRet (mC (.bl false))) mNext)
  (mIfS (mBl (mOp fIsn (mName 9) (mC .non))) (mSeq (mDrop (mBM fApp (mOp fIxY (mName 9) (mC (.int 3))) (vCons (mC (.int 7)) vNil)))
  (mIfS (mBl (mOp fNeR (mCallT m_piece_at (vCons (mName 6) (vCons (mName 7) vNil))) (mName 8))) (mRet (mC (.bl false))) mNext)) mNext)))))
  (mIfS (mBl (mOp fNe (mName 6) (mName 3))) (mRet (mC (.bl false))) mNext))))))))
  (mRet (mOp fIs (mCallT m_piece_at (vCons (mLst vNil) (vCons (mC (.int 0)) vNil))) (mC .non))))
noncomputable def m_law : Mf := mFn 1 10 b_law
theorem ok_law {P : Program} {w : World} {K : PySem.W.Frag} {mg : Str → Option Value} {base : Heap} (T : Tx K mg) : FnOk P w K mg base CX0 10 T.a_law T.d_law ["_law_script"] (spM K (ctT T) m_law) :=
  T.F_law.ok sc_law (fun vs H Q E h => sp_len h) (fun cdv A outer s H vs Q E hr h => ⟨_, (pss_cons (ps_for PassesOwn.never rfl (pi_listZ (K := K) rfl (pe_slice (sl_Z (K := K) rfl) (pv 0) po_none (po_some pe_int))) (pg_name (i := 1) sc_law.nd rfl (by first | exact Or.inl rfl | exact Or.inr rfl)) (pss_cons (ps_set (i := 2) sc_law.nd rfl (by first | exact Or.inl rfl | exact Or.inr rfl) (pe_callZ (ok_l_draw T) (hr.mono (by decide)) (by rfl) T.g_l_draw T.F_l_draw.kp T.b_l_draw pass0 (pa_cons (pv 1) pa_nil)))
      (pss_cons (ps_set (i := 3) sc_law.nd rfl (by first | exact Or.inl rfl | exact Or.inr rfl) (pe_lst pa_nil))
      (pss_cons (ps_for PassesOwn.never rfl (pi_range1 rfl T.z_range (pa_cons (pe_op (op_addZ (K := K) rfl) pe_int (pe_callZ (ok_l_next T) (hr.mono (by decide)) (by rfl) T.g_l_next T.F_l_next.kp T.b_l_next pass0 (pa_cons (pv 2) (pa_cons pe_int pa_nil)))) pa_nil)) (pg_name (i := 4) sc_law.nd rfl (by first | exact Or.inl rfl | exact Or.inr rfl)) (pss_cons (ps_for PassesOwn.never rfl (pi_range1 rfl T.z_range (pa_cons (pe_callZ (ok_l_next T) (hr.mono (by decide)) (by rfl) T.g_l_next T.F_l_next.kp T.b_l_next pass0 (pa_cons (pv 2) (pa_cons pe_int pa_nil))) pa_nil)) (pg_name (i := 5) sc_law.nd rfl (by first | exact Or.inl rfl | exact Or.inr rfl)) (pss_one (ps_expr (pe_bmZ (K := K) rfl PySem.F.plainAttrs_list PySem.F.slot_list_append PySem.F.type_list_append mt_append (pv 3) (pa_cons (pe_ix (ix_Y (K := K) rfl (hu_of hr)) (pe_lst (pa_cons pe_int (pa_cons pe_int (pa_cons pe_int (pa_cons pe_int (pa_cons (pe_callZ (ok_l_next T) (hr.mono (by decide)) (by rfl) T.g_l_next T.F_l_next.kp T.b_l_next pass0 (pa_cons (pv 2) (pa_cons pe_int pa_nil))) pa_nil)))))) (pe_callZ (ok_l_next T) (hr.mono (by decide)) (by rfl) T.g_l_next T.F_l_next.kp T.b_l_next pass0 (pa_cons (pv 2) (pa_cons pe_int pa_nil))) (fun _ _ => rfl)) pa_nil)))))
      (pss_one (ps_set (i := 3) sc_law.nd rfl (by first | exact Or.inl rfl | exact Or.inr rfl) (pe_op (op_addZ (K := K) rfl) (pv 3) (pe_callZ (ok_l_piece T) (hr.mono (by decide)) (by rfl) T.g_l_piece T.F_l_piece.kp T.b_l_piece pass0 (pa_cons (pv 2) pa_nil)))))))
      (pss_cons (ps_set (i := 3) sc_law.nd rfl (by first | exact Or.inl rfl | exact Or.inr rfl) (pe_op (op_addZ (K := K) rfl) (pv 3) (pe_lc (own := [("_law_k", 4)]) rfl sc_law.nd (pi_range1 rfl T.z_range (pa_cons (pe_callZ (ok_l_next T) (hr.mono (by decide)) (by rfl) T.g_l_next T.F_l_next.kp T.b_l_next pass0 (pa_cons (pv 2) (pa_cons pe_int pa_nil))) pa_nil)) (blkOk_by (N := ["_law_script", "_law_cell", "_law_draw_here", "_law_row", "_law_k", "_law_j", "_law_handed", "_law_place", "_law_due_here", "_law_found"]) (sc := defScope s_law) (by decide +kernel)) (fun _ _ _ _ _ => (pg_name (i := 4) sc_law.nd rfl (by first | exact Or.inl rfl | exact Or.inr rfl))) (fun _ _ _ _ _ => pts_nil) (fun _ _ _ _ _ => (pe_ix (ix_Y (K := K) rfl (hu_of hr)) (pe_lst (pa_cons pe_int (pa_cons pe_int (pa_cons pe_int pa_nil)))) (pe_callZ (ok_l_next T) (hr.mono (by decide)) (by rfl) T.g_l_next T.F_l_next.kp T.b_l_next pass0 (pa_cons (pv 2) (pa_cons pe_int pa_nil))) (fun _ _ => rfl))))))
      (pss_cons (ps_set (i := 6) sc_law.nd rfl (by first | exact Or.inl rfl | exact Or.inr rfl) (pe_callTy (call_listZ (K := K) rfl) (by rfl) T.z_list (by decide +kernel) (pa_cons (pv 3) pa_nil)))
      (pss_cons (ps_for PassesOwn.never rfl (pi_range1 rfl T.z_range (pa_cons (pe_op (op_addZ (K := K) rfl) (pe_callB (call_lenY (K := K) rfl) (by rfl) T.z_len PySem.boot_len (pa_cons (pv 3) pa_nil)) pe_int) pa_nil)) (pg_name (i := 7) sc_law.nd rfl (by first | exact Or.inl rfl | exact Or.inr rfl)) (pss_cons (ps_set (i := 8) sc_law.nd rfl (by first | exact Or.inl rfl | exact Or.inr rfl) (pe_callZ (ok_l_due T) (hr.mono (by decide)) (by rfl) T.g_l_due T.F_l_due.kp T.b_l_due pass0 (pa_cons (pv 3) (pa_cons (pv 7) pa_nil))))
      (pss_cons (ps_set (i := 9) sc_law.nd rfl (by first | exact Or.inl rfl | exact Or.inr rfl) (pe_callZ (ok_piece_at T) (hr.mono (by decide)) (by rfl) T.g_piece_at T.F_piece_at.kp T.b_piece_at pass0 (pa_cons (pv 6) (pa_cons (pv 7) pa_nil))))
      (pss_cons (ps_if (PW.pt (pw_or (pt_cmpR (op_neZ (K := K) rfl hr.units) (pv 9) (pv 8) (nomark _)) (pw_or1 (PW.pt (pw_and (pt_cmpR op_isnZ (pv 9) pe_non (nomark _)) (pw_and1 (pt_not (pt_truthZ (K := K) rfl (pe_callB (call_isiZ (K := K) rfl) (by rfl) T.z_isinstance (by decide +kernel) (pa_cons (pe_ix (ix_Y (K := K) rfl (hu_of hr)) (pv 9) pe_int (fun _ _ => rfl)) (pa_cons (pe_bltn (v := .ty "list") rfl T.z_list (by decide +kernel) rfl) pa_nil))) (by intro _; rfl))))))))) (pss_one (ps_ret pe_bl)) pss_nil)
      (pss_one (ps_if (pt_cmpR op_isnZ (pv 9) pe_non (nomark _)) (pss_cons (ps_expr (pe_bmZ (K := K) rfl PySem.F.plainAttrs_list PySem.F.slot_list_append PySem.F.type_list_append mt_append (pe_ix (ix_Y (K := K) rfl (hu_of hr)) (pv 9) pe_int (fun _ _ => rfl)) (pa_cons pe_int pa_nil)))
      (pss_one (ps_if (pt_cmpR (op_neZ (K := K) rfl hr.units) (pe_callZ (ok_piece_at T) (hr.mono (by decide)) (by rfl) T.g_piece_at T.F_piece_at.kp T.b_piece_at pass0 (pa_cons (pv 6) (pa_cons (pv 7) pa_nil))) (pv 8) (nomark _)) (pss_one (ps_ret pe_bl)) pss_nil))) pss_nil))))))
      (pss_one (ps_if (pt_cmpR (op_neZ (K := K) rfl hr.units) (pv 6) (pv 3) (nomark _)) (pss_one (ps_ret pe_bl)) pss_nil)))))))))
      (pss_one (ps_ret (pe_cmpR op_isZ (pe_callZ (ok_piece_at T) (hr.mono (by decide)) (by rfl) T.g_piece_at T.F_piece_at.kp T.b_piece_at pass0 (pa_cons (pe_lst pa_nil) (pa_cons pe_int pa_nil))) pe_non (nomark _))))),
    fn_run (np := 1) (N := ["_law_script", "_law_cell", "_law_draw_here", "_law_row", "_law_k", "_law_j", "_law_handed", "_law_place", "_law_due_here", "_law_found"]) (body := b_law) (by unfold b_law; exact (sv_seq (sv_for (jw_list (ei_sl ei_var eo_no (eo_sm (ei_c cr_int)))) sg_name (sv_seq (sv_asgK (ei_callN (ev_cons ei_var ev_nil)))
      (sv_seq (sv_asg (ei_lst ev_nil))
      (sv_seq (sv_for (jw_rng1 (ea_cons (ei_op j_add (ei_c cr_int) (ei_callN (ev_cons ei_var (ev_cons (ei_c cr_int) ev_nil)))) ea_nil)) sg_name (sv_seq (sv_for (jw_rng1 (ea_cons (ei_callN (ev_cons ei_var (ev_cons (ei_c cr_int) ev_nil))) ea_nil)) sg_name (sv_drop (ei_bm jm_app ei_var (ev_cons (ei_op j_ixY (ei_lst (ev_cons (ei_c cr_int) (ev_cons (ei_c cr_int) (ev_cons (ei_c cr_int) (ev_cons (ei_c cr_int) (ev_cons (ei_callN (ev_cons ei_var (ev_cons (ei_c cr_int) ev_nil))) ev_nil)))))) (ei_callN (ev_cons ei_var (ev_cons (ei_c cr_int) ev_nil)))) ev_nil))))
      (sv_asg (ei_op j_add ei_var (ei_callN (ev_cons ei_var ev_nil))))))
      (sv_seq (sv_asg (ei_op j_add ei_var (ei_lc (ws := [4]) (jw_rng1 (ea_cons (ei_callN (ev_cons ei_var (ev_cons (ei_c cr_int) ev_nil))) ea_nil)) sg_name (by decide) et_yes (ei_op j_ixY (ei_lst (ev_cons (ei_c cr_int) (ev_cons (ei_c cr_int) (ev_cons (ei_c cr_int) ev_nil)))) (ei_callN (ev_cons ei_var (ev_cons (ei_c cr_int) ev_nil)))))))
      (sv_seq (sv_asg (ei_cb jb_list (ea_cons ei_var ea_nil)))
      (sv_seq (sv_for (jw_rng1 (ea_cons (ei_op j_add (ei_cb jb_len (ea_cons ei_var ea_nil)) (ei_c cr_int)) ea_nil)) sg_name (sv_seq (sv_asg (ei_callN (ev_cons ei_var (ev_cons ei_var ev_nil))))
      (sv_seq (sv_asg (ei_callT (ev_cons ei_var (ev_cons ei_var ev_nil))))
      (sv_seq (sv_if (et_or (et_tst (ei_op j_neR ei_var ei_var)) (et_and (et_tst (ei_op j_isn ei_var (ei_c cr_non))) (et_not (et_tru (ei_cb jb_isi (ea_cons (ei_op j_ixY ei_var (ei_c cr_int)) (ea_cons (ei_c cr_ty) ea_nil))))))) (sv_ret (ei_c cr_bl)) sv_next)
      (sv_if (et_tst (ei_op j_isn ei_var (ei_c cr_non))) (sv_seq (sv_drop (ei_bm jm_app (ei_op j_ixY ei_var (ei_c cr_int)) (ev_cons (ei_c cr_int) ev_nil)))
      (sv_if (et_tst (ei_op j_neR (ei_callT (ev_cons ei_var (ev_cons ei_var ev_nil))) ei_var)) (sv_ret (ei_c cr_bl)) sv_next)) sv_next)))))
      (sv_if (et_tst (ei_op j_ne ei_var ei_var)) (sv_ret (ei_c cr_bl)) sv_next))))))))
      (sv_ret (ei_op j_is (ei_callT (ev_cons (ei_lst ev_nil) (ev_cons (ei_c cr_int) ev_nil))) (ei_c cr_non))))) h⟩)
def cstp (f : Nat) : Nat := if f &&& 32768 = 0 then f * 2 else ((f ^^^ 32768) * 2) ^^^ 4129
def citr : Nat → Nat → Nat
  | 0, x => x
  | n + 1, x => cstp (citr n x)
def byt8 (f : Nat) (b : Int) : Nat := citr 8 (f ^^^ (b.toNat * 256))
def crcN (f : Nat) (ns : List Int) : Nat := ns.foldl byt8 f
theorem bit_top (i : Nat) : (32768 : Nat).testBit i = decide (15 = i) := Nat.testBit_two_pow (n := 15) (m := i)
theorem top_zero (f : Nat) : f &&& 32768 = 0 ↔ f.testBit 15 = false := by
  constructor
  · intro h
    have e : (f &&& 32768).testBit 15 = (0 : Nat).testBit 15 := by rw [h]
    rw [Nat.testBit_and, bit_top] at e
    simpa using e
  · intro h
    refine Nat.eq_of_testBit_eq fun i => ?_
    rw [Nat.testBit_and, bit_top, Nat.zero_testBit]
    by_cases e : 15 = i
    · subst e; rw [h] <;> rfl
    · simp [e]
theorem bit_mul2 (x i : Nat) : (x * 2).testBit i = (decide (1 ≤ i) && x.testBit (i - 1)) := by
  have e : x * 2 = x <<< 1 := by rw [Nat.shiftLeft_eq]
  rw [e, Nat.testBit_shiftLeft]
theorem hi_false {f n i : Nat} (h : f < 2 ^ n) (hi : n ≤ i) : f.testBit i = false := Nat.testBit_lt_two_pow (Nat.lt_of_lt_of_le h (Nat.pow_le_pow_right (by decide) hi))
theorem cstp_bit {f : Nat} (hf : f < 2 ^ 16) (i : Nat) : (cstp f).testBit i = ((decide (1 ≤ i ∧ i < 16) && f.testBit (i - 1)) ^^ (f.testBit 15 && (4129 : Nat).testBit i)) := by
  unfold cstp
  by_cases h : f &&& 32768 = 0
  · rw [if_pos h, bit_mul2]
    have ht := (top_zero f).mp h
    rw [ht]
    by_cases h16 : i < 16
    · simp [h16]
    · have : f.testBit (i - 1) = false := by
        by_cases e : i = 16
        · subst e; exact ht
        · exact hi_false hf (by omega)
      simp [this]
  · rw [if_neg h, Nat.testBit_xor, bit_mul2, Nat.testBit_xor, bit_top]
    have ht : f.testBit 15 = true := by
      cases q : f.testBit 15 with
      | true => rfl
      | false => exact absurd ((top_zero f).mpr q) h
    rw [ht]
    by_cases h1 : 1 ≤ i
    · by_cases h16 : i < 16
      · have : ¬ 15 = i - 1 := by omega
        simp [h1, h16, this]
      · by_cases e : i = 16
        · subst e; simp [ht]
        · have q : f.testBit (i - 1) = false := hi_false hf (by omega)
          have : ¬ 15 = i - 1 := by omega
          simp [h16, q, this]
    · simp [h1]
theorem lt_of_bits {x n : Nat} (h : ∀ i, n ≤ i → x.testBit i = false) : x < 2 ^ n := Nat.lt_pow_two_of_testBit x h
theorem feed_hi {i : Nat} (h : 16 ≤ i) : (4129 : Nat).testBit i = false := hi_false (n := 16) (by decide) h
theorem cstp_lt {f : Nat} (hf : f < 2 ^ 16) : cstp f < 2 ^ 16 := lt_of_bits fun i hi => by
  rw [cstp_bit hf, feed_hi hi]
  have : ¬ i < 16 := by omega
  simp [this]
theorem citr_lt {f : Nat} (hf : f < 2 ^ 16) : ∀ n, citr n f < 2 ^ 16
  | 0 => hf
  | n + 1 => cstp_lt (citr_lt hf n)
theorem xor_byte_lt {f : Nat} {b : Int} (hf : f < 2 ^ 16) (hb : 0 ≤ b ∧ b < 256) : f ^^^ (b.toNat * 256) < 2 ^ 16 := Nat.xor_lt_two_pow hf (by omega)
theorem byt8_lt {f : Nat} {b : Int} (hf : f < 2 ^ 16) (hb : 0 ≤ b ∧ b < 256) : byt8 f b < 2 ^ 16 := citr_lt (xor_byte_lt hf hb) 8
theorem crcN_lt : ∀ {ns : List Int} {f : Nat}, f < 2 ^ 16 → Z.Byt ns → crcN f ns < 2 ^ 16
  | [], _, hf, _ => hf
  | b :: ns, f, hf, hb => crcN_lt (ns := ns) (byt8_lt hf (hb b (List.mem_cons_self))) fun n h => hb n (List.mem_cons_of_mem _ h)
theorem crcN_app (f : Nat) (xs ys : List Int) : crcN f (xs ++ ys) = crcN (crcN f xs) ys := List.foldl_append
theorem take_more {α : Type} {l : List α} {i : Nat} {x : α} (h : l[i]? = some x) : l.take (i + 1) = l.take i ++ [x] := by rw [List.take_add_one, h] <;> rfl
theorem crcN_more {ns : List Int} {i : Nat} {b : Int} {f : Nat} (h : ns[i]? = some b) : crcN f (ns.take (i + 1)) = byt8 (crcN f (ns.take i)) b := by
  rw [take_more h, crcN_app] <;> rfl
theorem byt_take {ns : List Int} {i : Nat} (h : Z.Byt ns) : Z.Byt (ns.take i) := fun n hn => h n (List.mem_of_mem_take hn)
theorem byt_at {ns : List Int} {i : Nat} {b : Int} (h : Z.Byt ns) (e : ns[i]? = some b) : 0 ≤ b ∧ b < 256 := h b (List.mem_of_getElem? e)
theorem cstp_int0 {x : Nat} (h : Builtin.bitAnd (x : Int) 32768 = 0) : (x : Int) * 2 ^ (1 : Int).toNat = ((cstp x : Nat) : Int) := by
  have e : Builtin.bitAnd (x : Int) 32768 = ((x &&& 32768 : Nat) : Int) := Z.and_nat x 32768
  rw [e] at h
  have h' : x &&& 32768 = 0 := by omega
  unfold cstp
  rw [if_pos h']
  simp
theorem cstp_int1 {x : Nat} (h : ¬ Builtin.bitAnd (x : Int) 32768 = 0) : Builtin.bitXor (Builtin.bitXor (x : Int) 32768 * 2 ^ (1 : Int).toNat) 4129 = ((cstp x : Nat) : Int) := by
  have e : Builtin.bitAnd (x : Int) 32768 = ((x &&& 32768 : Nat) : Int) := Z.and_nat x 32768
  rw [e] at h
  have h' : ¬ x &&& 32768 = 0 := by omega
  have e1 : Builtin.bitXor (x : Int) 32768 = ((x ^^^ 32768 : Nat) : Int) := Z.xor_nat x 32768
  have e2 : ((x ^^^ 32768 : Nat) : Int) * 2 ^ (1 : Int).toNat = (((x ^^^ 32768) * 2 : Nat) : Int) := by simp
  have e3 : Builtin.bitXor (((x ^^^ 32768) * 2 : Nat) : Int) 4129 = ((((x ^^^ 32768) * 2) ^^^ 4129 : Nat) : Int) := Z.xor_nat _ 4129
  unfold cstp
  rw [if_neg h', e1, e2, e3]
theorem byte_int {f : Nat} {b : Int} (hb : 0 ≤ b ∧ b < 256) : Builtin.bitXor (f : Int) (b * 2 ^ (8 : Int).toNat) = ((f ^^^ (b.toNat * 256) : Nat) : Int) := by
  have e : b * 2 ^ (8 : Int).toNat = ((b.toNat * 256 : Nat) : Int) := by
    have : ((8 : Int).toNat) = 8 := rfl
    rw [this]
    omega
  rw [e]
  exact Z.xor_nat _ _
theorem shl_nat {x : Nat} {j : Int} {m : Nat} (hx : x < 2 ^ m) (hm : m ≤ 1000000) (h0 : 0 ≤ j) (h1 : j ≤ 1000000) : CShl (x : Int) j := cshl_N (m := m) (by omega) hm h0 h1
theorem shl_byte {b : Int} (hb : 0 ≤ b ∧ b < 256) : CShl b 8 := cshl_N (m := 8) (by have : (2 : Nat) ^ 8 = 256 := rfl; omega) (by decide) (by decide) (by decide)
theorem stp0 {x : Nat} (h : Builtin.bitAnd (x : Int) 32768 = 0) : (x : Int) * 2 ^ (1 : Int).toNat = ((cstp x : Nat) : Int) := cstp_int0 h
theorem stp1 {x : Nat} (h : ¬ Builtin.bitAnd (x : Int) 32768 = 0) : Builtin.bitXor (Builtin.bitXor (x : Int) 32768 * 2 ^ (1 : Int).toNat) 4129 = ((cstp x : Nat) : Int) := cstp_int1 h
theorem crc_on_ok {ns : List Int} {f : Nat} (hf : f < 2 ^ 16) (hb : Z.Byt ns) (M : List Cn) : m_crc_on [.int (f : Int), .lst (ns.map D.int)] M = .ok (.val (.int (crcN f ns : Nat))) M := by
  refine fo_ok (P := fun _ _ => True) ?_
  walk_at "f0"; unfold b_crc_on
  walk_at "w"
  refine w_forN (fun i s => ∃ e3 e4 : Option Ent, s = ⟨[some (.fz (.int (f : Int))), some (.fz (.lst (ns.map D.int))), some (.fz (.int (crcN f (ns.take i) : Nat))), e3, e4], M⟩) ⟨_, _, rfl⟩ ?_ ?_
  · rintro i y s hi ⟨e3, e4, rfl⟩
    obtain ⟨b, hbi, rfl⟩ := map_get hi
    have hbb := byt_at hb hbi
    have hlt := crcN_lt (ns := ns.take i) hf (byt_take hb)
    rw [crcN_more hbi]
    generalize crcN f (ns.take i) = g at *
    have sh8 := shl_byte hbb
    walk_at "w"
    rw [byte_int hbb]
    have hx := xor_byte_lt hlt hbb
    generalize hX : g ^^^ (b.toNat * 256) = x0 at *
    walk_at "w"
    refine w_forN (fun j s => ∃ e4 : Option Ent, s = ⟨[some (.fz (.int (f : Int))), some (.fz (.lst (ns.map D.int))), some (.fz (.int (citr j x0 : Nat))), some (.fz (.int b)), e4], M⟩) ⟨_, rfl⟩ ?_ ?_
    · rintro j y s hj ⟨e4, rfl⟩
      have hl := citr_lt hx j
      have en : citr (j + 1) x0 = cstp (citr j x0) := rfl
      rw [en]
      generalize citr j x0 = x at *
      walk_at "w"
      by_cases h : Builtin.bitAnd (x : Int) 32768 = 0
      · refine z_b0 (by rw [decide_eq_true h]; rfl) ?_
        have sh := shl_nat (x := x) (j := 1) (m := 16) hl (by decide) (by decide) (by decide)
        walk_at "w"
        rw [stp0 h]
        exact ⟨_, rfl⟩
      · refine z_b1 (by rw [decide_eq_false h]; rfl) ?_
        have hx1 : Builtin.bitXor (x : Int) 32768 = ((x ^^^ 32768 : Nat) : Int) := Z.xor_nat x 32768
        have hl1 : x ^^^ 32768 < 2 ^ 16 := Nat.xor_lt_two_pow hl (by decide)
        have sh : CShl (Builtin.bitXor (x : Int) 32768) 1 := by rw [hx1]; exact shl_nat hl1 (by decide) (by decide) (by decide)
        walk_at "w"
        rw [stp1 h]
        exact ⟨_, rfl⟩
    · rintro s ⟨e4, rfl⟩
      rw [rng_len]
      exact ⟨_, _, by unfold byt8; rw [hX]; rfl⟩
  · rintro s ⟨e3, e4, rfl⟩
    rw [List.length_map, List.take_length]
    walk_at "w"
    exact ⟨rfl, rfl⟩
def crcB (ns : List Int) : List Int := [((crcN 65535 ns : Nat) : Int) / 256, ((crcN 65535 ns : Nat) : Int) % 256]
theorem crcB_len (ns : List Int) : (crcB ns).length = 2 := rfl
theorem crc_row_ok {ns : List Int} (hb : Z.Byt ns) (M : List Cn) : m_crc_row [.lst (ns.map D.int)] M = .ok (.new (.lst ((crcB ns).map D.int))) M := by
  refine fo_ok (P := fun _ _ => True) ?_
  walk_at "f0"; unfold b_crc_row
  walk_at "w"
  refine fo_eq (a := .val (.int (crcN 65535 ns : Nat))) (M' := M) (fo_ok (P := fun _ _ => True) ?_) ?_
  · walk_at "f0"; unfold b_crc
    walk_at "w"
    refine fo_eq (crc_on_ok (f := 65535) (by decide) hb M) ?_
    walk_at "w"
    exact ⟨rfl, rfl⟩
  walk_at "w"
  refine ⟨?_, rfl⟩
  have e : Builtin.bitAnd ((crcN 65535 ns : Nat) : Int) 255 = ((crcN 65535 ns &&& 255 : Nat) : Int) := Z.and_nat _ 255
  rw [e, show crcN 65535 ns &&& 255 = crcN 65535 ns % 256 from Nat.and_two_pow_sub_one_eq_mod _ 8]
  rfl
abbrev Pt := Int × Int
def vlP (ps : List Pt) (k : Int) : Option Int := (ps.find? fun p => decide (p.1 = k)).map (·.2)
def drP (ps : List Pt) (k : Int) : List Pt := ps.filter fun p => decide (p.1 ≠ k)
/-- each number once -/
def Nd (ps : List Pt) : Prop := (ps.map Prod.fst).Nodup
theorem drP_nd {ps : List Pt} {k : Int} (h : Nd ps) : Nd (drP ps k) := h.sublist (List.filter_sublist.map _)
theorem drP_mem {ps : List Pt} {k : Int} {p : Pt} : p ∈ drP ps k ↔ p ∈ ps ∧ p.1 ≠ k := by
  unfold drP; rw [List.mem_filter, decide_eq_true_eq]
theorem drP_len : ∀ {ps : List Pt} {p : Pt}, Nd ps → p ∈ ps → (drP ps p.1).length + 1 = ps.length
  | q :: ps, p, hn, hp => by
    have hn : (q.1 :: ps.map Prod.fst).Nodup := hn
    obtain ⟨h1, h2⟩ := List.nodup_cons.mp hn
    unfold drP
    rw [List.filter_cons]
    rcases List.mem_cons.mp hp with rfl | hp
    · rw [if_neg (by simp), List.length_cons]
      rw [List.filter_eq_self.mpr (fun x hx => decide_eq_true (fun (z : x.1 = _) => h1 (by have := List.mem_map_of_mem (f := Prod.fst) hx; rw [z] at this; exact this)))]
    · have hne : q.1 ≠ p.1 := fun z => h1 (z ▸ List.mem_map_of_mem hp)
      rw [if_pos (decide_eq_true hne), List.length_cons, List.length_cons]
      have := drP_len h2 hp
      unfold drP at this
      omega
abbrev sw (p : Pt) : Pt := (p.2, p.1)
def least : List Pt → Pt
  | [] => (0, 0)
  | p :: ps => sw (minP (sw p) (ps.map sw))
def one (ps : List Pt) : Pt := least ps
def oth (ps : List Pt) : Pt := least (drP ps (one ps).1)
structure Pk (n : Int) (k : Nat) (ps : List Pt) : Prop where
  nd : Nd ps
  lt : ∀ p ∈ ps, p.1 < n + k
  ge : ∀ p ∈ ps, 0 ≤ p.2
def wt (ps : List Pt) (k : Int) : Int := (vlP ps k).getD 0
def stepP (n : Int) (ps : List Pt) (q : Pt) : List Pt := drP (drP ps q.1) q.2 ++ [(n, wt ps q.1 + wt ps q.2)]
structure OkS (ps : List Pt) (q : Pt) : Prop where
  ne : q.1 ≠ q.2
  m1 : (q.1, wt ps q.1) ∈ ps
  m2 : (q.2, wt ps q.2) ∈ ps
  le : ∀ r ∈ drP (drP ps q.1) q.2, wt ps q.1 ≤ r.2 ∧ wt ps q.2 ≤ r.2
def stP (n : Int) (ps qs : List Pt) : Nat → List Pt
  | 0 => ps
  | k + 1 => stepP (n + k) (stP n ps qs k) (qs.getD k (0, 0))
def Gd (n : Int) (ps qs : List Pt) : Prop := ∀ k, k < qs.length → OkS (stP n ps qs k) (qs.getD k (0, 0))
theorem OkS.in1 {ps : List Pt} {q : Pt} (h : OkS ps q) : (q.2, wt ps q.2) ∈ drP ps q.1 := drP_mem.mpr ⟨h.m2, fun z => h.ne z.symm⟩
theorem OkS.len {ps : List Pt} {q : Pt} (h : OkS ps q) (hn : Nd ps) : (drP (drP ps q.1) q.2).length + 2 = ps.length := by
  have h1 : (drP ps q.1).length + 1 = ps.length := drP_len (p := (q.1, wt ps q.1)) hn h.m1
  have h2 : (drP (drP ps q.1) q.2).length + 1 = (drP ps q.1).length := drP_len (p := (q.2, wt ps q.2)) (drP_nd hn) h.in1
  omega
theorem Pk.step {n : Int} {k : Nat} {ps : List Pt} {q : Pt} (h : Pk n k ps) (hs : OkS ps q) : Pk n (k + 1) (stepP (n + k) ps q) ∧ (stepP (n + k) ps q).length + 1 = ps.length := by
  have hr : ∀ p ∈ drP (drP ps q.1) q.2, p ∈ ps := fun p hp => (drP_mem.mp (drP_mem.mp hp).1).1
  have w1 : 0 ≤ wt ps q.1 := h.ge _ hs.m1
  have w2 : 0 ≤ wt ps q.2 := h.ge _ hs.m2
  refine ⟨⟨?_, fun p hp => ?_, fun p hp => ?_⟩, ?_⟩
  · show ((drP (drP ps q.1) q.2 ++ [(n + k, _)]).map Prod.fst).Nodup
    rw [List.map_append, List.nodup_append]
    refine ⟨drP_nd (drP_nd h.nd), by simp, fun a ha b hb => ?_⟩
    obtain ⟨p, hp, rfl⟩ := List.mem_map.mp ha
    simp at hb
    subst hb
    have := h.lt p (hr p hp)
    omega
  · rcases List.mem_append.mp hp with hp | hp
    · have := h.lt p (hr p hp); push_cast; omega
    · simp at hp; subst hp; show n + k < n + ((k + 1 : Nat) : Int); push_cast; omega
  · rcases List.mem_append.mp hp with hp | hp
    · exact h.ge p (hr p hp)
    · simp at hp; subst hp; show 0 ≤ wt ps q.1 + wt ps q.2; omega
  · unfold stepP; rw [List.length_append]; have := hs.len h.nd; show _ + 1 + 1 = _; omega
theorem stP_app {n : Int} {ps qs rs : List Pt} : ∀ k, k ≤ qs.length → stP n ps (qs ++ rs) k = stP n ps qs k
  | 0, _ => rfl
  | k + 1, hk => by
    show stepP _ (stP n ps (qs ++ rs) k) _ = stepP _ (stP n ps qs k) _
    rw [stP_app k (by omega), List.getD_eq_getElem?_getD, List.getD_eq_getElem?_getD, List.getElem?_append_left (by omega)]
theorem Gd.take {n : Int} {ps qs : List Pt} (h : Gd n ps qs) (j : Nat) : Gd n ps (qs.take j) ∧ (∀ k, k ≤ j → k ≤ qs.length → stP n ps (qs.take j) k = stP n ps qs k) := by
  have e : ∀ k, k ≤ j → k ≤ qs.length → stP n ps (qs.take j) k = stP n ps qs k := fun k hk hl => by
    conv => rhs; rw [← List.take_append_drop j qs]
    rw [stP_app]; rw [List.length_take]; omega
  refine ⟨fun k hk => ?_, e⟩
  rw [List.length_take] at hk
  rw [e k (by omega) (by omega), List.getD_eq_getElem?_getD, List.getElem?_take, if_pos (by omega), ← List.getD_eq_getElem?_getD]
  exact h k (by omega)
theorem sum_perm {l m : List Int} (h : l.Perm m) : l.sum = m.sum := by
  induction h with
  | nil => rfl
  | cons x _ ih => rw [List.sum_cons, List.sum_cons, ih]
  | swap x y l => rw [List.sum_cons, List.sum_cons, List.sum_cons, List.sum_cons]; omega
  | trans _ _ h1 h2 => exact h1.trans h2
def rmL (ls : List Int) : Int := ((ls.filter fun l => decide (0 < l)).map fun l => (2 : Int) ^ (15 - l).toNat).sum
def tw (p : Pt) : Int := (2 : Int) ^ (15 - p.1).toNat
def sumQ (P : List Pt) (c : Pt → Bool) : Int := (P.map fun p => if 0 < p.1 ∧ c p = true then tw p else 0).sum
theorem tw_pos (p : Pt) : 0 < tw p := Int.pow_pos (by decide)
theorem sumQ_cons (p : Pt) (P : List Pt) (c : Pt → Bool) : sumQ (p :: P) c = (if 0 < p.1 ∧ c p = true then tw p else 0) + sumQ P c := by unfold sumQ; rw [List.map_cons, List.sum_cons]
theorem sumQ_app (P Q : List Pt) (c : Pt → Bool) : sumQ (P ++ Q) c = sumQ P c + sumQ Q c := by unfold sumQ; rw [List.map_append, List.sum_append]
theorem sumQ_perm {P Q : List Pt} (h : P.Perm Q) (c : Pt → Bool) : sumQ P c = sumQ Q c := sum_perm (h.map _)
theorem sumQ_nn : ∀ (P : List Pt) (c : Pt → Bool), 0 ≤ sumQ P c
  | [], _ => Int.le_refl _
  | p :: P, c => by
    rw [sumQ_cons]
    have := sumQ_nn P c
    have := tw_pos p
    split <;> omega
theorem sumQ_mono : ∀ {P : List Pt} {c d : Pt → Bool}, (∀ p ∈ P, c p = true → d p = true) → sumQ P c ≤ sumQ P d
  | [], _, _, _ => Int.le_refl _
  | p :: P, c, d, h => by
    rw [sumQ_cons, sumQ_cons]
    have ih := sumQ_mono (P := P) fun x hx => h x (List.mem_cons_of_mem _ hx)
    have hp := tw_pos p
    have h0 := h p (List.mem_cons_self ..)
    by_cases h1 : 0 < p.1 ∧ c p = true
    · rw [if_pos h1, if_pos ⟨h1.1, h0 h1.2⟩]; omega
    · rw [if_neg h1]
      split <;> omega
theorem sumQ_congr {P : List Pt} {c d : Pt → Bool} (h : ∀ p ∈ P, c p = d p) : sumQ P c = sumQ P d := by
  unfold sumQ
  congr 1
  exact List.map_congr_left fun p hp => by rw [h p hp]
theorem sumQ_zero {P : List Pt} {c : Pt → Bool} (h : ∀ p ∈ P, c p = false) : sumQ P c = 0 := by
  induction P with
  | nil => rfl
  | cons p P ih =>
    rw [sumQ_cons, ih fun x hx => h x (List.mem_cons_of_mem _ hx), h p (List.mem_cons_self ..), if_neg (fun z => by cases z.2)]; rfl
/-- one more -/
theorem sumQ_add : ∀ {P : List Pt} {c d : Pt → Bool} {q : Pt}, q ∈ P → 0 < q.1 → c q = false → d q = true → (∀ p ∈ P, c p = true → d p = true) → sumQ P c + tw q ≤ sumQ P d
  | p :: P, c, d, q, hq, h0, hc, hd, h => by
    rw [sumQ_cons, sumQ_cons]
    have hp := tw_pos p
    have hm := sumQ_mono (P := P) (c := c) (d := d) fun x hx => h x (List.mem_cons_of_mem _ hx)
    rcases List.mem_cons.mp hq with rfl | hq
    · rw [if_neg (fun z => by rw [hc] at z; cases z.2), if_pos ⟨h0, hd⟩]; omega
    · have ih := sumQ_add hq h0 hc hd fun x hx => h x (List.mem_cons_of_mem _ hx)
      have h1 := h p (List.mem_cons_self ..)
      by_cases h2 : 0 < p.1 ∧ c p = true
      · rw [if_pos h2, if_pos ⟨h2.1, h1 h2.2⟩]; omega
      · rw [if_neg h2]
        split <;> omega
theorem sumQ_mul {m : Int} (hm : m ≤ 15) : ∀ {P : List Pt} {c : Pt → Bool}, (∀ p ∈ P, c p = true → 0 < p.1 → p.1 ≤ m) → ∃ t : Int, 0 ≤ t ∧ sumQ P c = t * (2 : Int) ^ (15 - m).toNat
  | [], _, _ => ⟨0, Int.le_refl _, by rw [Int.zero_mul]; rfl⟩
  | p :: P, c, h => by
    obtain ⟨t, ht0, ht⟩ := sumQ_mul hm (P := P) (c := c) fun x hx => h x (List.mem_cons_of_mem _ hx)
    rw [sumQ_cons, ht]
    by_cases h1 : 0 < p.1 ∧ c p = true
    · have h2 := h p (List.mem_cons_self ..) h1.2 h1.1
      refine ⟨2 ^ (m - p.1).toNat + t, by have : 0 < (2 : Int) ^ (m - p.1).toNat := Int.pow_pos (by decide)
                                          omega, ?_⟩
      rw [if_pos h1, Int.add_mul, ← Int.pow_add, show (m - p.1).toNat + (15 - m).toNat = (15 - p.1).toNat by omega]; rfl
    · exact ⟨t, ht0, by rw [if_neg h1, Int.zero_add]⟩
/-- lengths and symbols -/
def enP (ls : List Int) : List Pt := (List.range ls.length).map fun (s : Nat) => (ls.getD s 0, (s : Int))
theorem enP_mem {ls : List Int} {p : Pt} : p ∈ enP ls ↔ 0 ≤ p.2 ∧ p.2 < ls.length ∧ p.1 = ls.getD p.2.toNat 0 := by
  unfold enP
  rw [List.mem_map]
  constructor
  · rintro ⟨s, hs, rfl⟩
    have hs := List.mem_range.mp hs
    exact ⟨by show 0 ≤ (s : Int); omega, by show (s : Int) < _; omega, by show ls.getD s 0 = ls.getD (s : Int).toNat 0; rw [Int.toNat_natCast]⟩
  · rintro ⟨h0, h1, h2⟩
    refine ⟨p.2.toNat, List.mem_range.mpr (by omega), ?_⟩
    rw [← h2, show ((p.2.toNat : Nat) : Int) = p.2 by omega]
def plc (ls : List Int) (s : Int) : Int := sumQ (enP ls) fun p => Y.ltP p (ls.getD s.toNat 0, s)
theorem rm_sumQ (ls : List Int) : rmL ls = sumQ (enP ls) fun _ => true := by
  unfold rmL sumQ enP
  rw [List.map_map]
  have : ∀ l : List Int, ((l.filter fun l => decide (0 < l)).map fun l => (2 : Int) ^ (15 - l).toNat).sum = (l.map fun x => if 0 < x ∧ true = true then (2 : Int) ^ (15 - x).toNat else 0).sum := fun l => by
    induction l with
    | nil => rfl
    | cons x l ih =>
      rw [List.filter_cons, List.map_cons, List.sum_cons, ← ih]
      by_cases h : 0 < x
      · rw [if_pos (decide_eq_true h), if_pos ⟨h, rfl⟩, List.map_cons, List.sum_cons]
      · rw [if_neg (fun z => h (of_decide_eq_true z)), if_neg (fun z => h z.1), Int.zero_add]
  rw [this]
  congr 1
  refine List.ext_getElem (by simp) fun i h1 h2 => ?_
  have hi : i < ls.length := by simpa using h1
  simp only [List.getElem_map, List.getElem_range, Function.comp]
  rw [List.getD_eq_getElem?_getD, List.getElem?_eq_getElem hi]; rfl
/-- the word of a symbol -/
def wordN (ls : List Int) (s : Int) : Int := plc ls s / (2 : Int) ^ (15 - ls.getD s.toNat 0).toNat
structure Ln (ls : List Int) : Prop where
  bd : ∀ l ∈ ls, 0 ≤ l ∧ l ≤ 15
  room : rmL ls ≤ 32768
theorem Ln.at {ls : List Int} (h : Ln ls) {s : Int} (h0 : 0 ≤ s) (h1 : s < ls.length) : 0 ≤ ls.getD s.toNat 0 ∧ ls.getD s.toNat 0 ≤ 15 := by
  rw [List.getD_eq_getElem?_getD, List.getElem?_eq_getElem (show s.toNat < ls.length by omega)]
  exact h.bd _ (List.getElem_mem _)
section
variable {ls : List Int} (h : Ln ls) {s : Int} (h0 : 0 ≤ s) (h1 : s < ls.length) (hl : 0 < ls.getD s.toNat 0)
include h h0 h1 hl
theorem plc_mul : plc ls s = wordN ls s * (2 : Int) ^ (15 - ls.getD s.toNat 0).toNat ∧ 0 ≤ wordN ls s := by
  have hb := h.at h0 h1
  obtain ⟨t, ht0, ht⟩ := sumQ_mul (m := ls.getD s.toNat 0) (by omega) (P := enP ls) (c := fun p => Y.ltP p (ls.getD s.toNat 0, s)) (fun p hp hc h0 => by
    have := of_decide_eq_true hc
    have : p.1 < ls.getD s.toNat 0 ∨ (p.1 = ls.getD s.toNat 0 ∧ p.2 < s) := this
    omega)
  have hp : (0 : Int) < 2 ^ (15 - ls.getD s.toNat 0).toNat := Int.pow_pos (by decide)
  have e : wordN ls s = t := by
    unfold wordN plc
    rw [ht, Int.mul_ediv_cancel _ (by omega)]
  rw [e]
  exact ⟨ht, ht0⟩
theorem plc_top : plc ls s + (2 : Int) ^ (15 - ls.getD s.toNat 0).toNat ≤ 32768 := by
  have := sumQ_add (P := enP ls) (c := fun p => Y.ltP p (ls.getD s.toNat 0, s)) (d := fun _ => true) (q := (ls.getD s.toNat 0, s)) (enP_mem.mpr ⟨h0, h1, rfl⟩) hl (by unfold Y.ltP; simp) rfl (fun _ _ _ => rfl)
  have hr := h.room
  rw [rm_sumQ] at hr
  exact Int.le_trans this hr
theorem wordN_lt : wordN ls s < (2 : Int) ^ (ls.getD s.toNat 0).toNat := by
  have hb := h.at h0 h1
  obtain ⟨e, hn⟩ := plc_mul h h0 h1 hl
  have ht := plc_top h h0 h1 hl
  rw [e] at ht
  have hT : (32768 : Int) = 2 ^ (ls.getD s.toNat 0).toNat * 2 ^ (15 - ls.getD s.toNat 0).toNat := by
    rw [← Int.pow_add, show (ls.getD s.toNat 0).toNat + (15 - ls.getD s.toNat 0).toNat = 15 by omega]; decide
  have hp : (0 : Int) < 2 ^ (15 - ls.getD s.toNat 0).toNat := Int.pow_pos (by decide)
  rw [hT] at ht
  generalize (2 : Int) ^ (15 - ls.getD s.toNat 0).toNat = u at *
  generalize (2 : Int) ^ (ls.getD s.toNat 0).toNat = T at *
  have : (wordN ls s + 1) * u ≤ T * u := by rw [Int.add_mul, Int.one_mul]; exact ht
  have := Int.le_of_mul_le_mul_right this hp
  omega
/-- behind it, ahead of it -/
theorem plc_lt {r : Int} (r0 : 0 ≤ r) (r1 : r < ls.length) (hr : 0 < ls.getD r.toNat 0) (hne : r ≠ s) : plc ls s + (2 : Int) ^ (15 - ls.getD s.toNat 0).toNat ≤ plc ls r ∨ plc ls r + (2 : Int) ^ (15 - ls.getD r.toNat 0).toNat ≤ plc ls s := by
  have key : ∀ a b : Int, 0 ≤ a → a < ls.length → 0 < ls.getD a.toNat 0 → Y.ltP (ls.getD a.toNat 0, a) (ls.getD b.toNat 0, b) = true → plc ls a + (2 : Int) ^ (15 - ls.getD a.toNat 0).toNat ≤ plc ls b := fun a b a0 a1 ha hlt => by
    refine sumQ_add (P := enP ls) (c := fun p => Y.ltP p (ls.getD a.toNat 0, a)) (d := fun p => Y.ltP p (ls.getD b.toNat 0, b)) (q := (ls.getD a.toNat 0, a)) (enP_mem.mpr ⟨a0, a1, rfl⟩) ha (by unfold Y.ltP; simp) hlt (fun p _ hp => ?_)
    unfold Y.ltP at *
    simp at *
    omega
  by_cases hc : Y.ltP (ls.getD s.toNat 0, s) (ls.getD r.toNat 0, r) = true
  · exact .inl (key s r h0 h1 hl hc)
  · refine .inr (key r s r0 r1 hr ?_)
    unfold Y.ltP at *
    simp at *
    omega
end
theorem enP_nd (ls : List Int) : (enP ls).Nodup := by
  unfold enP
  refine List.Pairwise.map _ (fun a b hab => ?_) List.nodup_range
  intro z
  have : (a : Int) = b := congrArg Prod.snd z
  exact hab (by omega)
theorem sort_strict (P : List Pt) (hn : P.Nodup) : (P.mergeSort lePp).Pairwise fun x y => Y.ltP x y = true := by
  have h1 := lePp_pw P
  have h2 : (P.mergeSort lePp).Nodup := (lePp_perm P).nodup_iff.mpr hn
  refine (h1.and h2).imp fun {a b} h => ?_
  obtain ⟨h, hne⟩ := h
  unfold Y.ltP
  refine decide_eq_true ?_
  rcases h with h | ⟨h, h'⟩
  · exact .inl h
  · refine .inr ⟨h, ?_⟩
    have : a.2 ≠ b.2 := fun z => hne (Prod.ext h z)
    omega
theorem take_sum {P : List Pt} (hs : P.Pairwise fun x y => Y.ltP x y = true) {i : Nat} {p : Pt} (hi : P[i]? = some p) : sumQ (P.take i) (fun _ => true) = sumQ P fun x => Y.ltP x p := by
  obtain ⟨hil, he⟩ := List.getElem?_eq_some_iff.mp hi
  have hsp : P = P.take i ++ p :: P.drop (i + 1) := by
    conv => lhs; rw [← List.take_append_drop i P, List.drop_eq_getElem_cons hil, he]
  rw [hsp] at hs
  obtain ⟨_, h2, h3⟩ := List.pairwise_append.mp hs
  obtain ⟨h4, _⟩ := List.pairwise_cons.mp h2
  conv => rhs; rw [hsp, sumQ_app, sumQ_cons]
  rw [sumQ_zero (P := P.drop (i + 1)) (c := fun x => Y.ltP x p) (fun q hq => by
    have := h4 q hq
    unfold Y.ltP at *
    simp at *
    omega), if_neg (fun z => by
    have := of_decide_eq_true z.2
    omega), sumQ_congr (P := P.take i) (c := fun x => Y.ltP x p) (d := fun _ => true) fun q hq => h3 q hq p (List.mem_cons_self ..)]
  omega
theorem kb_int_int : kitB "int" "int" = some true := by decide +kernel
theorem kb_int_bool : kitB "int" "bool" = some false := by decide +kernel
theorem is_whole_int (i : Int) (M : List Cn) : m_is_whole_tables [.int i] M = .ok (.val (.bl true)) M := by
  refine fo_ok (P := fun _ _ => True) ?_
  walk_at "f0"; unfold b_is_whole_tables
  walk_at "w"
  refine w_isi (by exact rfl) (by exact rfl) kb_int_int ?_
  walk_at "w"
  refine w_isi (by exact rfl) (by exact rfl) kb_int_bool ?_
  walk_at "w"
  exact ⟨rfl, rfl⟩
theorem bls_map' (bs : List Bool) : blsD (bs.map D.bl) = some bs := by
  induction bs with
  | nil => rfl
  | cons n ns ih => show (blsD (ns.map D.bl)).map (n :: ·) = _; rw [ih]; rfl
theorem is_list_ok {ns : List Int} {lo hi : Int} (h1 : 1 ≤ ns.length) (h2 : ns.length ≤ 64) (hb : ∀ n ∈ ns, lo ≤ n ∧ n ≤ hi) (M : List Cn) : m_is_list_of [.lst (ns.map D.int), .int lo, .int hi] M = .ok (.val (.bl true)) M := by
  refine fo_ok (P := fun _ _ => True) ?_
  walk_at "f0"; unfold b_is_list_of
  walk_at "w"
  refine w_isi (b := true) (by exact rfl) (by exact rfl) (by decide +kernel) ?_
  walk_at "w"
  rw [List.length_map]
  walk_at "w"
  refine w_lcMap (fun _ => .bl true) ?_ ?_ ?_
  · rw [List.length_map]; show ns.length ≤ 16777216; omega
  · intro x hx
    obtain ⟨n, hn, rfl⟩ := List.mem_map.mp hx
    obtain ⟨b1, b2⟩ := hb n hn
    walk_at "w"
    refine fo_eq (is_whole_int n M) ?_
    walk_at "w"
    rw [decide_eq_true b2]
    exact ⟨rfl, rfl⟩
  · walk_at "w"
    have e : (ns.map D.int).map (fun _ => D.bl true) = (ns.map fun _ => true).map D.bl := by rw [List.map_map, List.map_map]; rfl
    refine w_bls (bs := ns.map fun _ => true) rfl (by rw [e]; exact bls_map' _) ?_
    walk_at "w"
    rw [List.all_map, show (ns.all (id ∘ fun _ => true)) = true by rw [List.all_eq_true]; intro _ _; rfl]
    exact ⟨rfl, rfl⟩
theorem room_ok {ls : List Int} (hb : ∀ l ∈ ls, 0 ≤ l ∧ l ≤ 15) (hz : ls.length ≤ 1000) (M : List Cn) : m_room_of [.lst (ls.map D.int)] M = .ok (.val (.int (rmL ls))) M := by
  refine fo_ok (P := fun _ _ => True) ?_
  walk_at "f0"; unfold b_room_of
  walk_at "w"
  refine w_lcFil (fun d => match d with | .int i => decide (0 < i) | _ => false) (fun d => match d with | .int i => D.int (2 ^ (15 - i).toNat) | d => d) ?_ ?_ ?_
  · rw [List.length_map]; show _ ≤ 16777216; omega
  · intro x hx
    obtain ⟨l, hl, rfl⟩ := List.mem_map.mp hx
    have := hb l hl
    have sh : CShl 1 (15 - l) := cshl_1 (by omega) (by omega)
    walk_at "w"
    refine ⟨rfl, ?_⟩
    refine z_if (fun h => ?_) (fun h => ?_)
    · walk_at "w"
      rw [Int.one_mul]
      exact ⟨rfl, rfl⟩
    · rfl
  have e : (((ls.map D.int).filter (fun d => match d with | .int i => decide (0 < i) | _ => false)).map (fun d => match d with | .int i => D.int (2 ^ (15 - i).toNat) | d => d)) = ((ls.filter fun l => decide (0 < l)).map fun l => (2 : Int) ^ (15 - l).toNat).map D.int := by
    rw [List.filter_map, List.map_map, List.map_map]; rfl
  rw [e]
  walk_at "ds"
  walk_at "w"
  refine w_ints (ns := (ls.filter fun l => decide (0 < l)).map fun l => (2 : Int) ^ (15 - l).toNat) (d := .int (rmL ls)) rfl (intsD_map _) rfl ?_
  walk_at "w"
  exact ⟨rfl, rfl⟩
theorem fits_ok {ls : List Int} (hb : ∀ l ∈ ls, 0 ≤ l ∧ l ≤ 15) (hz : ls.length ≤ 1000) (M : List Cn) : m_fits [.lst (ls.map D.int)] M = .ok (.val (.bl (decide (rmL ls ≤ 32768)))) M := by
  refine fo_ok (P := fun _ _ => True) ?_
  have sh : CShl 1 15 := cshl_1 (by omega) (by omega)
  walk_at "f0"; unfold b_fits
  walk_at "w"
  refine fo_eq (room_ok hb hz M) ?_
  walk_at "w"
  exact ⟨rfl, rfl⟩
theorem check_lengths_ok {ls : List Int} (h1 : 1 ≤ ls.length) (h2 : ls.length ≤ 64) (hb : ∀ l ∈ ls, 0 ≤ l ∧ l ≤ 15) (hr : rmL ls ≤ 32768) (M : List Cn) : m_check_lengths [.lst (ls.map D.int)] M = .ok (.val .non) M := by
  refine fo_ok (P := fun _ _ => True) ?_
  walk_at "f0"; unfold b_check_lengths
  walk_at "w"
  refine fo_eq (is_list_ok h1 h2 hb M) ?_
  walk_at "w"
  refine fo_eq (fits_ok hb (by omega) M) ?_
  rw [decide_eq_true hr]
  walk_at "w"
  exact ⟨trivial, rfl⟩
def wrd (ls : List Int) (s : Nat) : D := if 0 < ls.getD s 0 then tP (ls.getD s 0, wordN ls (s : Int)) else .non
theorem range_setD {n i : Nat} {f : Nat → D} {v : D} : ((List.range n).map f).set i v = (List.range n).map fun s => if s = i then v else f s := by
  refine List.ext_getElem (by simp) fun k h1 h2 => ?_
  rw [List.getElem_set]
  simp only [List.getElem_map, List.getElem_range]
  by_cases h : i = k
  · rw [if_pos h, if_pos h.symm]
  · rw [if_neg h, if_neg (fun z => h z.symm)]
theorem en_pairs (ls : List Int) : (enumL (ls.map D.int)).map (fun d => match d with | .tup [a, b] => D.tup [b, a] | d => d) = (enP ls).map tP := by
  refine List.ext_getElem? fun i => ?_
  rw [List.getElem?_map]
  by_cases hi : i < ls.length
  · have h1 : (enumL (ls.map D.int))[i]? = some (.tup [.int (i : Nat), .int ls[i]]) := by
      cases q : (enumL (ls.map D.int))[i]? with
      | none => rw [List.getElem?_eq_none_iff, enum_len, List.length_map] at q; omega
      | some d =>
        obtain ⟨x, hx, rfl⟩ := enum_get q
        rw [List.getElem?_map, List.getElem?_eq_getElem hi] at hx
        rw [← Option.some.inj hx]
    rw [h1]
    unfold enP
    rw [List.map_map, List.getElem?_map, List.getElem?_range hi]
    show some (D.tup [.int ls[i], .int (i : Nat)]) = some (tP (ls.getD i 0, (i : Int)))
    rw [List.getD_eq_getElem?_getD, List.getElem?_eq_getElem hi]; rfl
  · rw [List.getElem?_eq_none_iff.mpr (by rw [enum_len, List.length_map]; omega), List.getElem?_eq_none_iff.mpr (by unfold enP; simp; omega)]; rfl
theorem words_ok {ls : List Int} (h1 : 1 ≤ ls.length) (h2 : ls.length ≤ 64) (h : Ln ls) (M : List Cn) : m_words_of [.lst (ls.map D.int)] M = .ok (.new (.lst ((List.range ls.length).map (wrd ls)))) M := by
  refine fx_ok ?_
  walk_at "fx"; unfold b_words_of
  walk_at "w"
  refine fx_eq (check_lengths_ok h1 h2 h.bd h.room M) ?_
  walk_at "w"
  refine w_lcMap (fun _ => .non) ?_ ?_ ?_
  · rw [List.length_map]; show _ ≤ 16777216; omega
  · intro x hx
    walk_at "w"
    exact ⟨rfl, rfl⟩
  walk_at "w"
  refine w_lcMap (fun d => match d with | .tup [a, b] => D.tup [b, a] | d => d) ?_ ?_ ?_
  · rw [enum_len, List.length_map]; show _ ≤ 16777216; omega
  · intro x hx
    obtain ⟨i, hi⟩ := List.mem_iff_getElem?.mp hx
    obtain ⟨y, hy, rfl⟩ := enum_get hi
    walk_at "w"
    exact ⟨rfl, rfl⟩
  rw [en_pairs]
  walk_at "ds"
  walk_at "w"
  refine w_sort rfl (sortOk_pairs _) ?_
  rw [sort_pairs]
  have hstr := sort_strict (enP ls) (enP_nd ls)
  have hprm := lePp_perm (enP ls)
  generalize (enP ls).mergeSort lePp = P at *
  have hPl : P.length = ls.length := by rw [hprm.length_eq]; unfold enP; simp
  have hPm : ∀ p ∈ P, 0 ≤ p.2 ∧ p.2 < ls.length ∧ p.1 = ls.getD p.2.toNat 0 := fun p hp => enP_mem.mp (hprm.mem_iff.mp hp)
  have hroom : sumQ P (fun _ => true) ≤ 32768 := by rw [sumQ_perm hprm, ← rm_sumQ]; exact h.room
  walk_at "w"
  refine ⟨_, rfl, ?_⟩
  refine w_forN (fun i s => ∃ (nu la : Int) (e4 e5 : Option Ent), ((la = 0 ∧ nu = 0 ∧ sumQ (P.take i) (fun _ => true) = 0) ∨ (0 < la ∧ la ≤ 15 ∧ 0 ≤ nu ∧ (nu + 1) * (2 : Int) ^ (15 - la).toNat = sumQ (P.take i) (fun _ => true) ∧ ∀ j p, i ≤ j → P[j]? = some p → la ≤ p.1)) ∧ s = ⟨[some (.fz (.lst (ls.map D.int))), some (.ow (.lst ((List.range ls.length).map fun s => if (ls.getD s 0, (s : Int)) ∈ P.take i then wrd ls s else .non))), some (.fz (.int nu)), some (.fz (.int la)), e4, e5], M⟩) ⟨0, 0, none, none, .inl ⟨rfl, rfl, rfl⟩, ?_⟩ ?_ ?_
  · have e : (ls.map D.int).map (fun _ => D.non) = (List.range ls.length).map fun s => if (ls.getD s 0, (s : Int)) ∈ P.take 0 then wrd ls s else .non := by
      refine List.ext_getElem (by simp) fun i q1 q2 => ?_
      simp
    rw [← e]; rfl
  · rintro i y s hi ⟨nu, la, e4, e5, hst, rfl⟩
    obtain ⟨p, hp, rfl⟩ := map_get hi
    obtain ⟨hil, hie⟩ := List.getElem?_eq_some_iff.mp hp
    obtain ⟨p0, p1, p2⟩ := hPm p (List.mem_of_getElem? hp)
    have htk : P.take (i + 1) = P.take i ++ [p] := by rw [List.take_add_one, hp]; rfl
    have hsm : sumQ (P.take (i + 1)) (fun _ => true) = sumQ (P.take i) (fun _ => true) + (if 0 < p.1 then tw p else 0) := by
      rw [htk, sumQ_app, sumQ_cons]
      show _ + ((if 0 < p.1 ∧ true = true then tw p else 0) + 0) = _
      by_cases q : 0 < p.1
      · rw [if_pos q, if_pos ⟨q, rfl⟩]; omega
      · rw [if_neg q, if_neg (fun z => q z.1)]; omega
    have hpl : sumQ (P.take i) (fun _ => true) = plc ls p.2 := by
      rw [take_sum hstr hp]
      unfold plc
      rw [sumQ_perm hprm, ← p2]
    have hb := h.at p0 p1
    have hmono : ∀ j q, i + 1 ≤ j → P[j]? = some q → p.1 ≤ q.1 := fun j q hj hq => by
      obtain ⟨hjl, hje⟩ := List.getElem?_eq_some_iff.mp hq
      have := List.pairwise_iff_getElem.mp hstr i j hil hjl (by omega)
      rw [hie, hje] at this
      have := of_decide_eq_true this
      omega
    have hnx : p.1 ≤ 0 → ((List.range ls.length).map fun s => if (ls.getD s 0, (s : Int)) ∈ P.take (i + 1) then wrd ls s else D.non) = (List.range ls.length).map fun s => if (ls.getD s 0, (s : Int)) ∈ P.take i then wrd ls s else D.non := fun hz => by
      refine List.map_congr_left fun s hs => ?_
      rw [htk]
      by_cases q : (ls.getD s 0, (s : Int)) ∈ P.take i
      · rw [if_pos q, if_pos (List.mem_append_left _ q)]
      · rw [if_neg q]
        by_cases q2 : (ls.getD s 0, (s : Int)) = p
        · rw [if_pos (List.mem_append_right _ (List.mem_singleton.mpr q2))]
          unfold wrd
          rw [if_neg (by have : ls.getD s 0 = p.1 := congrArg Prod.fst q2; omega)]
        · rw [if_neg (fun z => by
            rcases List.mem_append.mp z with z | z
            · exact q z
            · exact q2 (List.mem_singleton.mp z))]
    have hset : ∀ n : Int, 0 < p.1 → n = wordN ls p.2 → ((List.range ls.length).map fun s => if (ls.getD s 0, (s : Int)) ∈ P.take i then wrd ls s else D.non).set p.2.toNat (tP (p.1, n)) = (List.range ls.length).map fun s => if (ls.getD s 0, (s : Int)) ∈ P.take (i + 1) then wrd ls s else D.non := fun n hpos en => by
      rw [range_setD]
      refine List.map_congr_left fun s hs => ?_
      rw [htk]
      by_cases q : s = p.2.toNat
      · have ep : (ls.getD s 0, (s : Int)) = p := Prod.ext (by show ls.getD s 0 = p.1; rw [p2, q]) (by show (s : Int) = p.2; omega)
        rw [if_pos q, if_pos (List.mem_append_right _ (List.mem_singleton.mpr ep))]
        unfold wrd
        have e1 : ls.getD s 0 = p.1 := congrArg Prod.fst ep
        have e2 : (s : Int) = p.2 := congrArg Prod.snd ep
        rw [e1, if_pos hpos, e2, en]
      · have q2 : (ls.getD s 0, (s : Int)) ≠ p := fun z => q (by have : (s : Int) = p.2 := congrArg Prod.snd z; omega)
        rw [if_neg q]
        by_cases q3 : (ls.getD s 0, (s : Int)) ∈ P.take i
        · rw [if_pos q3, if_pos (List.mem_append_left _ q3)]
        · rw [if_neg q3, if_neg (fun z => by
            rcases List.mem_append.mp z with z | z
            · exact q3 z
            · exact q2 (List.mem_singleton.mp z))]
    walk_at "w"
    refine z_if (fun hpos => ?_) (fun hpos => ?_)
    · rw [if_pos hpos] at hsm
      have hwm := plc_mul h p0 p1 (by rw [← p2]; exact hpos)
      rw [← p2, ← hpl] at hwm
      obtain ⟨hwm, hwn⟩ := hwm
      have hpp : (0 : Int) < 2 ^ (15 - p.1).toNat := Int.pow_pos (by decide)
      have hfin : (wordN ls p.2 + 1) * (2 : Int) ^ (15 - p.1).toNat = sumQ (P.take (i + 1)) fun _ => true := by
        rw [hsm, hwm, Int.add_mul, Int.one_mul]; rfl
      walk_at "w"
      rcases hst with ⟨rfl, rfl, hz⟩ | ⟨hl0, hl1, hn0, hsum, hle⟩
      · have hw0 : (0 : Int) = wordN ls p.2 := by
          rw [hz] at hwm
          rcases Int.mul_eq_zero.mp hwm.symm with e | e
          · exact e.symm
          · omega
        walk_at "w"
        refine so_setLst (l := (List.range ls.length).map fun s => if (ls.getD s 0, (s : Int)) ∈ P.take i then wrd ls s else .non) rfl (ixN_nn p0 (by simpa using p1)) ?_
        rw [show D.tup [.int p.1, .int 0] = tP (p.1, 0) from rfl, hset 0 hpos hw0]
        walk_at "ds"
        walk_at "w"
        exact ⟨0, p.1, _, _, .inr ⟨hpos, by omega, by decide, by rw [hw0]; exact hfin, hmono⟩, rfl⟩
      · have hlp := hle i p (Nat.le_refl _) hp
        have hnum : (nu + 1) * (2 : Int) ^ (p.1 - la).toNat = wordN ls p.2 := by
          have : ((nu + 1) * (2 : Int) ^ (p.1 - la).toNat) * 2 ^ (15 - p.1).toNat = wordN ls p.2 * 2 ^ (15 - p.1).toNat := by
            rw [Int.mul_assoc, ← Int.pow_add, show (p.1 - la).toNat + (15 - p.1).toNat = (15 - la).toNat by omega, hsum, hwm]
          exact Int.eq_of_mul_eq_mul_right (by omega) this
        have hnb : nu + 1 ≤ 32768 := by
          have h15 : sumQ (P.take i) (fun _ => true) ≤ 32768 := by
            refine Int.le_trans ?_ hroom
            conv => rhs; rw [← List.take_append_drop i P, sumQ_app]
            have := sumQ_nn (P.drop i) fun _ => true
            omega
          have hp1 : (1 : Int) ≤ 2 ^ (15 - la).toNat := Int.add_one_le_of_lt (Int.pow_pos (by decide))
          have : (nu + 1) * 1 ≤ (nu + 1) * 2 ^ (15 - la).toNat := Int.mul_le_mul_of_nonneg_left hp1 (by omega)
          omega
        have sh : CShl (nu + 1) (p.1 - la) := cshl_N (m := 17) (by have : (2 : Nat) ^ 17 = 131072 := rfl; omega) (by decide) (by omega) (by omega)
        walk_at "w"
        refine so_setLst (l := (List.range ls.length).map fun s => if (ls.getD s 0, (s : Int)) ∈ P.take i then wrd ls s else .non) rfl (ixN_nn p0 (by simpa using p1)) ?_
        rw [hnum, show D.tup [.int p.1, .int (wordN ls p.2)] = tP (p.1, wordN ls p.2) from rfl, hset _ hpos rfl]
        walk_at "ds"
        walk_at "w"
        exact ⟨_, p.1, _, _, .inr ⟨hpos, by omega, hwn, hfin, hmono⟩, rfl⟩
    · rw [if_neg hpos, Int.add_zero] at hsm
      walk_at "w"
      rw [← hnx (by omega)]
      refine ⟨nu, la, _, _, ?_, rfl⟩
      rcases hst with ⟨rfl, rfl, hz⟩ | ⟨hl0, hl1, hn0, hsum, hle⟩
      · exact .inl ⟨rfl, rfl, by rw [hsm]; exact hz⟩
      · exact .inr ⟨hl0, hl1, hn0, by rw [hsm]; exact hsum, fun j q hj hq => hle j q (by omega) hq⟩
  · rintro s ⟨nu, la, e4, e5, hst, rfl⟩
    rw [List.length_map, List.take_length]
    walk_at "w"
    refine ⟨?_, rfl⟩
    congr 2
    refine List.map_congr_left fun s hs => ?_
    have hs := List.mem_range.mp hs
    rw [if_pos (hprm.mem_iff.mpr (enP_mem.mpr ⟨by show (0 : Int) ≤ (s : Int); omega, by show (s : Int) < _; omega, by show ls.getD s 0 = ls.getD (s : Int).toNat 0; rw [Int.toNat_natCast]⟩))]
def b2i (b : Bool) : Int := if b then 1 else 0
def val : List Bool → Int
  | [] => 0
  | b :: bs => b2i b * 2 ^ bs.length + val bs
theorem val_cat : ∀ (a b : List Bool), val (a ++ b) = val a * 2 ^ b.length + val b
  | [], b => by show val b = 0 * _ + val b; simp
  | x :: a, b => by
    show b2i x * 2 ^ (a ++ b).length + val (a ++ b) = (b2i x * 2 ^ a.length + val a) * 2 ^ b.length + val b
    rw [val_cat a b, List.length_append, Int.pow_add, Int.add_mul, Int.mul_assoc]; omega
theorem val_snoc (a : List Bool) (b : Bool) : val (a ++ [b]) = 2 * val a + b2i b := by
  rw [val_cat]; show val a * 2 ^ 1 + (b2i b * 2 ^ 0 + 0) = _; simp; omega
theorem b2i_bd (b : Bool) : 0 ≤ b2i b ∧ b2i b ≤ 1 := by cases b <;> decide
theorem val_bd : ∀ a : List Bool, 0 ≤ val a ∧ val a < 2 ^ a.length
  | [] => by decide
  | b :: a => by
    have h := val_bd a
    have h2 := b2i_bd b
    show 0 ≤ b2i b * 2 ^ a.length + val a ∧ b2i b * 2 ^ a.length + val a < 2 ^ (a.length + 1)
    have hp : (0 : Int) < 2 ^ a.length := Int.pow_pos (by decide)
    rw [Int.pow_succ]
    cases b
    · show 0 ≤ 0 * _ + _ ∧ 0 * _ + _ < _; rw [Int.zero_mul]; omega
    · show 0 ≤ 1 * _ + _ ∧ 1 * _ + _ < _; rw [Int.one_mul]; omega
theorem val_zero (n : Nat) : val (List.replicate n false) = 0 := by
  induction n with
  | zero => rfl
  | succ n ih => show b2i false * _ + val (List.replicate n false) = 0; rw [ih]; show 0 * _ + 0 = 0; rw [Int.zero_mul]; rfl
/-- the bits of a number, the highest first -/
def bitsN (x : Nat) : Nat → List Bool
  | 0 => []
  | n + 1 => x.testBit n :: bitsN x n
theorem bitsN_len (x n : Nat) : (bitsN x n).length = n := by
  induction n with
  | zero => rfl
  | succ n ih => show (bitsN x n).length + 1 = _; rw [ih]
theorem val_bitsN (x n : Nat) : val (bitsN x n) = ((x % 2 ^ n : Nat) : Int) := by
  induction n with
  | zero => show (0 : Int) = _; rw [Nat.pow_zero, Nat.mod_one]; rfl
  | succ n ih =>
    show b2i (x.testBit n) * 2 ^ (bitsN x n).length + val (bitsN x n) = _
    rw [ih, bitsN_len]
    have h := Nat.mod_pow_succ (b := 2) (k := n) (x := x)
    rw [h]
    rw [Nat.testBit_eq_decide_div_mod_eq]
    have h2 : x / 2 ^ n % 2 = 0 ∨ x / 2 ^ n % 2 = 1 := by omega
    rcases h2 with h2 | h2
    · rw [h2]; show 0 * _ + _ = _; rw [Int.zero_mul]; simp
    · rw [h2]; show 1 * (2 ^ n : Int) + _ = _; rw [Int.one_mul]; push_cast; omega
theorem bit_and {x t : Nat} : Builtin.bitAnd ((x : Int) / 2 ^ t) 1 = b2i (x.testBit t) := by
  have e : ((x : Int) / 2 ^ t) = ((x / 2 ^ t : Nat) : Int) := by push_cast; rfl
  rw [e, show (1 : Int) = ((1 : Nat) : Int) from rfl, and_nat, Nat.and_one_is_mod, Nat.testBit_eq_decide_div_mod_eq]
  have h2 : x / 2 ^ t % 2 = 0 ∨ x / 2 ^ t % 2 = 1 := by omega
  rcases h2 with h2 | h2 <;> rw [h2] <;> rfl
/-- bits by the number's place: x.testBit (n - 1 - i) -/
theorem bitsN_at {x n i : Nat} (h : i < n) : (bitsN x n)[i]? = some (x.testBit (n - 1 - i)) := by
  induction n generalizing i with
  | zero => omega
  | succ n ih =>
    cases i with
    | zero => rfl
    | succ i =>
      show (bitsN x n)[i]? = _
      rw [ih (by omega)]
      congr 2; omega
/-- eight by eight -/
def byL : List Bool → List Int
  | a :: b :: c :: d :: e :: f :: g :: h :: r => val [a, b, c, d, e, f, g, h] :: byL r
  | _ => []
/-- what is left of eight by eight -/
def rsL : List Bool → List Bool
  | _ :: _ :: _ :: _ :: _ :: _ :: _ :: _ :: r => rsL r
  | r => r
theorem cut8 {B : List Bool} (h : 8 ≤ B.length) : ∃ a b c d e f g i r, B = a :: b :: c :: d :: e :: f :: g :: i :: r := by
  match B, h with
  | a :: b :: c :: d :: e :: f :: g :: i :: r, _ => exact ⟨a, b, c, d, e, f, g, i, r, rfl⟩
theorem rsL_small {B : List Bool} (h : B.length < 8) : rsL B = B ∧ byL B = [] := by
  match B, h with
  | [], _ => exact ⟨rfl, rfl⟩
  | [_], _ => exact ⟨rfl, rfl⟩
  | [_, _], _ => exact ⟨rfl, rfl⟩
  | [_, _, _], _ => exact ⟨rfl, rfl⟩
  | [_, _, _, _], _ => exact ⟨rfl, rfl⟩
  | [_, _, _, _, _], _ => exact ⟨rfl, rfl⟩
  | [_, _, _, _, _, _], _ => exact ⟨rfl, rfl⟩
  | [_, _, _, _, _, _, _], _ => exact ⟨rfl, rfl⟩
/-- one way down, eight by eight -/
theorem ind8 {P : List Bool → Prop} (h0 : ∀ B, B.length < 8 → P B) (h8 : ∀ a b c d e f g i r, P r → P (a :: b :: c :: d :: e :: f :: g :: i :: r)) : ∀ B, P B := by
  intro B
  generalize hn : B.length = n
  induction n using Nat.strongRecOn generalizing B with
  | ind n ih =>
    by_cases h : B.length < 8
    · exact h0 B h
    · obtain ⟨a, b, c, d, e, f, g, i, r, rfl⟩ := cut8 (B := B) (by omega)
      exact h8 _ _ _ _ _ _ _ _ _ (ih r.length (by subst hn; simp; omega) r rfl)
theorem rsL_len (B : List Bool) : (rsL B).length = B.length % 8 ∧ (byL B).length = B.length / 8 := by
  refine ind8 (P := fun B => (rsL B).length = B.length % 8 ∧ (byL B).length = B.length / 8) (fun B h => ?_) (fun a b c d e f g i r h => ?_) B
  · obtain ⟨e1, e2⟩ := rsL_small h
    rw [e1, e2]; exact ⟨by omega, by simp; omega⟩
  · show (rsL r).length = (r.length + 8) % 8 ∧ (byL r).length + 1 = (r.length + 8) / 8
    omega
/-- all bits of bytes -/
def bitsOf (bs : List Int) : List Bool := (bs.map fun b => bitsN b.toNat 8).flatten
theorem bitsOf_len (bs : List Int) : (bitsOf bs).length = 8 * bs.length := by
  induction bs with
  | nil => rfl
  | cons b bs ih => show (bitsN b.toNat 8 ++ bitsOf bs).length = _; rw [List.length_append, bitsN_len, ih, List.length_cons]; omega
theorem byL_bd (B : List Bool) : ∀ x ∈ byL B, 0 ≤ x ∧ x ≤ 255 := by
  refine ind8 (P := fun B => ∀ x ∈ byL B, 0 ≤ x ∧ x ≤ 255) (fun B h x hx => ?_) (fun a b c d e f g i r h x hx => ?_) B
  · rw [(rsL_small h).2] at hx; cases hx
  · rcases List.mem_cons.mp (show x ∈ val [a, b, c, d, e, f, g, i] :: byL r from hx) with rfl | hx
    · have := val_bd [a, b, c, d, e, f, g, i]
      have h256 : (2 : Int) ^ ([a, b, c, d, e, f, g, i] : List Bool).length = 256 := rfl
      omega
    · exact h x hx
/-- a bit of bytes, by its place -/
theorem bitsOf_at : ∀ {bs : List Int} {p : Nat}, p < 8 * bs.length → (bitsOf bs)[p]? = some ((bs.getD (p / 8) 0).toNat.testBit (7 - p % 8))
  | [], p, h => by simp at h
  | b :: bs, p, h => by
    show (bitsN b.toNat 8 ++ bitsOf bs)[p]? = _
    by_cases hp : p < 8
    · rw [List.getElem?_append_left (by rw [bitsN_len]; exact hp), bitsN_at hp, Nat.div_eq_of_lt hp, Nat.mod_eq_of_lt hp]; rfl
    · rw [List.getElem?_append_right (by rw [bitsN_len]; omega), bitsN_len, bitsOf_at (by rw [List.length_cons] at h; omega)]
      rw [show p / 8 = (p - 8) / 8 + 1 by omega, show p % 8 = (p - 8) % 8 by omega]; rfl
theorem viewL_cid {s : Stt} {k : Nat} {l : List D} (h : s.M[k]? = some (.lst l)) : viewL s (.val (.cid k)) = some l := by
  show s.M[k]?.bind Cn.aL = some l; rw [h]; rfl
theorem viewD_cid {s : Stt} {k : Nat} {l : List D} (h : s.M[k]? = some (.lst l)) : viewD s (.val (.cid k)) = none := by
  show s.M[k]?.bind Cn.aK = none; rw [h]; rfl
theorem lenD_cid {M : List Cn} {k : Nat} {l : List D} (h : M[k]? = some (.lst l)) : lenD M (.cid k) = some l.length := by
  show M[k]?.bind _ = _; rw [h]; rfl
theorem getC_cid {s : Stt} {k : Nat} {c : Cn} (h : s.M[k]? = some c) : getC s (.val (.cid k)) = some c := h
theorem app_at (M : List Cn) (a : Cn) (r : List Cn) : (M ++ a :: r)[M.length]? = some a := by rw [List.getElem?_append_right (Nat.le_refl _), Nat.sub_self]; rfl
theorem app_at1 (M : List Cn) (a b : Cn) (r : List Cn) : (M ++ a :: b :: r)[M.length + 1]? = some b := by rw [List.getElem?_append_right (by omega), show M.length + 1 - M.length = 1 by omega]; rfl
theorem app_set (M : List Cn) (a b : Cn) (r : List Cn) : (M ++ a :: r).set M.length b = M ++ b :: r := by rw [List.set_append_right _ _ (Nat.le_refl _), Nat.sub_self]; rfl
theorem is_wholeB (i : Int) (M : List Cn) : m_is_whole_bits [.int i] M = .ok (.val (.bl true)) M := by
  refine fo_ok (P := fun _ _ => True) ?_
  walk_at "f0"; unfold b_is_whole_bits
  walk_at "w"
  refine w_isi (b := true) (by exact rfl) (by exact rfl) (by decide +kernel) ?_
  walk_at "w"
  refine w_isi (b := false) (by exact rfl) (by exact rfl) (by decide +kernel) ?_
  walk_at "w"
  exact ⟨rfl, rfl⟩
theorem refuse_ok {b : Bool} (h : b = true) (M : List Cn) : m_refuse_unless [.bl b] M = .ok (.val .non) M := by
  subst h
  refine fx_ok ?_
  walk_at "fx"; unfold b_refuse_unless
  walk_at "w"
  exact ⟨trivial, rfl⟩
def padd (n : Nat) : Nat := (8 - n % 8) % 8
abbrev padB (B : List Bool) : List Bool := B ++ List.replicate (padd B.length) false
abbrev rfd (b n : D) : List (Str × D) := [("bytes", b), ("next", n)]
abbrev oR (j p : Nat) : Cn := .obj 3 (rfd (.cid j) (.int (p : Int)))
structure RAt (M : List Cn) (k j : Nat) (bs : List Int) (p : Nat) : Prop where
  ho : M[k]? = some (oR j p)
  hl : M[j]? = some (.lst (bs.map D.int))
  ne : k ≠ j
  bd : ∀ b ∈ bs, 0 ≤ b ∧ b ≤ 255
  few : bs.length ≤ 100000
  le : p ≤ 8 * bs.length
theorem RAt.set {M : List Cn} {k j : Nat} {bs : List Int} {p q : Nat} (h : RAt M k j bs p) (hq : q ≤ 8 * bs.length) : RAt (M.set k (oR j q)) k j bs q :=
  ⟨List.getElem?_set_self (List.getElem?_eq_some_iff.mp h.ho).1, by rw [List.getElem?_set_ne h.ne]; exact h.hl, h.ne, h.bd, h.few, hq⟩
theorem set_same {M : List Cn} {k : Nat} {c : Cn} (h : M[k]? = some c) : M.set k c = M := by
  obtain ⟨h1, h2⟩ := List.getElem?_eq_some_iff.mp h
  rw [← h2]; exact List.set_getElem_self h1
theorem left_ok {M : List Cn} {k j : Nat} {bs : List Int} {p : Nat} (h : RAt M k j bs p) : m_Reader_left [.cid k] M = .ok (.val (.int (8 * (bs.length : Int) - (p : Int)))) M := by
  have ho := h.ho
  refine fo_ok (P := fun _ _ => True) ?_
  walk_at "f0"; unfold b_Reader_left
  walk_at "w"
  refine w_len (d := .cid j) (by exact rfl) (lenD_cid h.hl) ?_
  walk_at "w"
  rw [List.length_map]
  exact ⟨rfl, rfl⟩
theorem place_ok {M : List Cn} {k j : Nat} {bs : List Int} {p : Nat} (h : RAt M k j bs p) : m_Reader_place [.cid k] M = .ok (.val (.int (((p : Int) + 7) / 8))) M := by
  have ho := h.ho
  refine fo_ok (P := fun _ _ => True) ?_
  walk_at "f0"; unfold b_Reader_place
  walk_at "w"
  exact ⟨rfl, rfl⟩
theorem rtake_ok {M : List Cn} {k j : Nat} {bs : List Int} {p m : Nat} (h : RAt M k j bs p) (hm : m ≤ 64) (hl : p + m ≤ 8 * bs.length) : m_Reader_take [.cid k, .int (m : Int)] M = .ok (.val (.int (val (((bitsOf bs).drop p).take m)))) (M.set k (oR j (p + m))) := by
  have ho := h.ho
  have hbl := bitsOf_len bs
  have h00 : val (((bitsOf bs).drop p).take 0) = 0 := by rw [List.take_zero]; rfl
  generalize hv0 : val (((bitsOf bs).drop p).take m) = vm
  generalize hMm : M.set k (oR j (p + m)) = Mm
  refine fo_ok (P := fun _ _ => True) ?_
  walk_at "f0"; unfold b_Reader_take
  walk_at "w"
  refine fo_eq (is_wholeB _ _) ?_
  walk_at "w"
  refine fo_eq (left_ok h) ?_
  walk_at "w"
  refine fo_eq (refuse_ok (decide_eq_true (by omega)) _) ?_
  walk_at "w"
  refine w_forN (fun i s => ∃ e3 : Option Ent, s = ⟨[some (.fz (.cid k)), some (.fz (.int (m : Int))), some (.fz (.int (val (((bitsOf bs).drop p).take i)))), e3], M.set k (oR j (p + i))⟩) ?_ ?_ ?_
  · exact ⟨none, by rw [h00, Nat.add_zero, set_same ho]⟩
  · rintro i y s hi ⟨e3, rfl⟩
    obtain ⟨hlt, rfl⟩ := rng_get hi
    have hlt : i < m := by omega
    have hR := h.set (q := p + i) (by omega)
    have ho2 := hR.ho
    have hl2 := hR.hl
    have hset : ∀ c : Cn, (M.set k (oR j (p + i))).set k c = M.set k c := fun c => List.set_set ..
    have hbit := bitsOf_at (bs := bs) (p := p + i) (by omega)
    have hnext : ((bitsOf bs).drop p).take (i + 1) = ((bitsOf bs).drop p).take i ++ [(bs.getD ((p + i) / 8) 0).toNat.testBit (7 - (p + i) % 8)] := by
      rw [List.take_add_one, List.getElem?_drop, hbit]; rfl
    have hgb := h.bd (bs.getD ((p + i) / 8) 0) (by
      rw [List.getD_eq_getElem?_getD, List.getElem?_eq_getElem (show (p + i) / 8 < bs.length by omega)]
      exact List.getElem_mem _)
    have hand := bit_and (x := (bs.getD ((p + i) / 8) 0).toNat) (t := 7 - (p + i) % 8)
    rw [show (((bs.getD ((p + i) / 8) 0).toNat : Nat) : Int) = bs.getD ((p + i) / 8) 0 by omega] at hand
    rw [hnext, val_snoc]
    generalize val (((bitsOf bs).drop p).take i) = v
    generalize hM : M.set k (oR j (p + i)) = M1 at ho2 hl2 hset ⊢
    walk_at "w"
    refine w_ixI (ns := bs) rfl (viewD_cid hl2) (viewL_cid hl2) (by omega) (by omega) ?_
    walk_at "w"
    refine ⟨1, rfd (.cid j) (.int ((p + i : Nat) : Int)), rfl, ho2, by simp, ?_⟩
    exact ⟨_, by
      rw [hset, show ((((p + i : Nat) : Int)) / 8).toNat = (p + i) / 8 by omega, show (7 - ((p + i : Nat) : Int) % 8).toNat = 7 - (p + i) % 8 by omega, hand]
      rfl⟩
  · rintro s ⟨e3, rfl⟩
    rw [rng_len]
    walk_at "w"
    exact ⟨by rw [← hv0]; rfl, by rw [← hMm]; rfl⟩
theorem rended_ok {M : List Cn} {k j : Nat} {bs : List Int} {p : Nat} (h : RAt M k j bs p) : m_Reader_ended [.cid k] M = .ok (.val (.bl (decide (val (((bitsOf bs).drop p).take (padd p)) = 0)))) (M.set k (oR j (p + padd p))) := by
  have ho := h.ho
  have hle := h.le
  refine fo_ok (P := fun _ _ => True) ?_
  walk_at "f0"; unfold b_Reader_ended
  walk_at "w"
  rw [show (0 - (p : Int)) % 8 = ((padd p : Nat) : Int) by unfold padd; omega]
  refine fo_eq (rtake_ok h (by unfold padd; omega) (by unfold padd; omega)) ?_
  walk_at "w"
  exact ⟨rfl, rfl⟩
theorem rinit_ok {M : List Cn} {bs : List Int} {q : Nat} (hq : q ≤ bs.length) (hb : bs.length ≤ 100000) : m_Reader_init [.cid M.length, .lst (bs.map D.int), .int (q : Int)] (M ++ [.obj 3 []]) = .ok (.val .non) (M ++ [oR (M.length + 1) (8 * q), .lst (bs.map D.int)]) := by
  refine fo_ok (P := fun _ _ => True) ?_
  walk_at "f0"; unfold b_Reader_init
  walk_at "w"
  refine fo_eq (is_wholeB _ _) ?_
  walk_at "w"
  rw [List.length_map]
  refine fo_eq (refuse_ok (decide_eq_true (by omega)) _) ?_
  walk_at "w"
  rw [List.append_assoc]
  refine ⟨_, _, _, objAt_of (app_at M _ _), ⟨rfl, by simp⟩, ?_⟩
  dsimp only []
  show Ws _ _ (mFldS _ _ _ _ ⟨_, (M ++ Cn.obj 3 [] :: [Cn.lst (bs.map D.int)]).set M.length _⟩)
  rw [app_set, show (M ++ [Cn.obj 3 []]).length = M.length + 1 by simp]
  walk_at "w"
  refine ⟨_, _, [("bytes", .cid (M.length + 1))], objAt_of (app_at M _ _), ⟨rfl, by show 1 < 1000; decide⟩, ?_⟩
  dsimp only []
  rw [app_set, show (8 * (q : Int)) = ((8 * q : Nat) : Int) by omega]
  exact ⟨trivial, rfl⟩
inductive Tk where
  | byte (b : Int) | back (d l : Int)
def cp (d : Nat) : Nat → List Int → List Int
  | 0, r => r
  | k + 1, r => cp d k (r ++ [r.getD (r.length - d) 0])
def stp (r : List Int) : Tk → List Int
  | .byte b => r ++ [b]
  | .back d l => cp d.toNat l.toNat r
def Vt (n : Nat) : Tk → Prop
  | .byte b => 0 ≤ b ∧ b ≤ 255
  | .back d l => 1 ≤ d ∧ d ≤ min (n : Int) 256 ∧ 1 ≤ l ∧ l ≤ 16
def Va (r : List Int) : List Tk → Prop
  | [] => True
  | t :: ts => Vt r.length t ∧ Va (stp r t) ts
def spr (r : List Int) (ts : List Tk) : List Int := ts.foldl stp r
theorem cp_len (d k : Nat) : ∀ r : List Int, (cp d k r).length = r.length + k := by
  induction k with
  | zero => intro r; rfl
  | succ k ih => intro r; show (cp d k _).length = _; rw [ih, List.length_append]; simp; omega
theorem cp_snoc (d : Nat) : ∀ (k : Nat) (r : List Int), cp d (k + 1) r = cp d k r ++ [(cp d k r).getD ((cp d k r).length - d) 0]
  | 0, r => rfl
  | k + 1, r => by
    show cp d (k + 1) (r ++ [r.getD (r.length - d) 0]) = _
    rw [cp_snoc d k]; rfl
theorem Va.at : ∀ {ts : List Tk} {r : List Int} {i : Nat} {t : Tk}, Va r ts → ts[i]? = some t → Vt (spr r (ts.take i)).length t
  | x :: ts, r, 0, t, h, e => by simp at e; subst e; exact h.1
  | x :: ts, r, i + 1, t, h, e => by simp at e; exact Va.at (ts := ts) h.2 e
def sy : Tk → Int
  | .byte b => b / 8
  | .back _ _ => 32
def tkE : Tk → List Bool
  | .byte b => bitsN (b % 8).toNat 3
  | .back d l => bitsN (d - 1).toNat 8 ++ bitsN (l - 1).toNat 4
def tkB (ls : List Int) (t : Tk) : List Bool := bitsN (wordN ls (sy t)).toNat (ls.getD (sy t).toNat 0).toNat ++ tkE t
def taB (ls : List Int) : List Bool := (ls.map fun l => bitsN l.toNat 4).flatten
def tsB (ls : List Int) (ts : List Tk) : List Bool := (ts.map (tkB ls)).flatten
theorem taB_snoc (ls : List Int) (l : Int) : taB (ls ++ [l]) = taB ls ++ bitsN l.toNat 4 := by unfold taB; rw [List.map_append, List.flatten_append]; simp
theorem taB_len (ls : List Int) : (taB ls).length = 4 * ls.length := by
  unfold taB
  induction ls with
  | nil => rfl
  | cons l ls ih => rw [List.map_cons, List.flatten_cons, List.length_append, bitsN_len, ih, List.length_cons]; omega
theorem lnat {ls : List Int} (h : Ln ls) (i : Nat) : 0 ≤ ls.getD i 0 ∧ ls.getD i 0 ≤ 15 := by
  by_cases hi : i < ls.length
  · rw [List.getD_eq_getElem?_getD, List.getElem?_eq_getElem hi]; exact h.bd _ (List.getElem_mem _)
  · rw [List.getD_eq_getElem?_getD, List.getElem?_eq_none_iff.mpr (by omega)]; show (0 : Int) ≤ 0 ∧ (0 : Int) ≤ 15; decide
theorem two_nat (m : Nat) : ((2 ^ m : Nat) : Int) = (2 : Int) ^ m := by push_cast; rfl
theorem bits_back : ∀ W : List Bool, bitsN (val W).toNat W.length = W
  | [] => rfl
  | b :: W => by
    have hb := val_bd W
    have hbb := b2i_bd b
    have hp : ((2 ^ W.length : Nat) : Int) = (2 : Int) ^ W.length := two_nat W.length
    have hv : val (b :: W) = b2i b * 2 ^ W.length + val W := rfl
    obtain ⟨v, hvv⟩ : ∃ v : Nat, val W = (v : Int) := ⟨(val W).toNat, by omega⟩
    obtain ⟨p, hpp⟩ : ∃ p : Nat, p = 2 ^ W.length := ⟨_, rfl⟩
    have hvp : v < p := by rw [hpp]; omega
    have e : (val (b :: W)).toNat = (if b = true then 1 else 0) * p + v := by
      rw [hv, hvv, ← hp, ← hpp]
      cases b
      · show ((0 : Int) * p + v).toNat = 0 * p + v; omega
      · show ((1 : Int) * p + v).toNat = 1 * p + v; omega
    have ih := bits_back W
    rw [hvv, Int.toNat_natCast] at ih
    rw [e, List.length_cons]
    show Nat.testBit _ W.length :: bitsN _ W.length = _
    have h1 : (((if b = true then 1 else 0) * p + v).testBit W.length) = b := by
      rw [Nat.testBit_eq_decide_div_mod_eq, ← hpp]
      cases b
      · rw [show ((if false = true then 1 else 0) * p + v) / p = 0 from by rw [if_neg (by decide), Nat.zero_mul, Nat.zero_add]; exact Nat.div_eq_of_lt hvp]; rfl
      · rw [show ((if true = true then 1 else 0) * p + v) / p = 1 from by
          rw [if_pos rfl, Nat.one_mul, Nat.add_div_left _ (by omega), Nat.div_eq_of_lt hvp]]; rfl
    have h2 : bitsN ((if b = true then 1 else 0) * p + v) W.length = bitsN v W.length := by
      have gen : ∀ n, n ≤ W.length → bitsN ((if b = true then 1 else 0) * p + v) n = bitsN v n := by
        intro n
        induction n with
        | zero => intro _; rfl
        | succ n ihn =>
          intro hn
          show Nat.testBit _ n :: bitsN _ n = Nat.testBit v n :: bitsN v n
          rw [ihn (by omega)]
          congr 1
          cases b
          · rw [if_neg (by decide), Nat.zero_mul, Nat.zero_add]
          · rw [if_pos rfl, Nat.one_mul, hpp, Nat.testBit_two_pow_add_gt (by omega)]
      exact gen _ (Nat.le_refl _)
    rw [h1, h2, ih]
theorem val_inj {W X : List Bool} (hl : W.length = X.length) (h : val W = val X) : W = X := by rw [← bits_back W, ← bits_back X, hl, h]
/-- the symbol of a word -/
def fndW (ls : List Int) (z : Nat) (n : Int) : Option Nat := (List.range ls.length).find? fun s => decide (0 < ls.getD s 0 ∧ ls.getD s 0 = (z : Int) ∧ wordN ls (s : Int) = n)
theorem fndW_some {ls : List Int} {z : Nat} {n : Int} {s : Nat} (h : fndW ls z n = some s) : s < ls.length ∧ 0 < ls.getD s 0 ∧ ls.getD s 0 = (z : Int) ∧ wordN ls (s : Int) = n := by
  have h1 := List.find?_some h
  have h2 := List.mem_of_find?_eq_some h
  rw [List.mem_range] at h2
  exact ⟨h2, of_decide_eq_true h1⟩
theorem fndW_none {ls : List Int} {z : Nat} {n : Int} (h : fndW ls z n = none) {s : Nat} (hs : s < ls.length) : ¬ (0 < ls.getD s 0 ∧ ls.getD s 0 = (z : Int) ∧ wordN ls (s : Int) = n) := fun h2 =>
  absurd (decide_eq_true h2) (by have := (List.find?_eq_none.mp h) s (List.mem_range.mpr hs); exact this)
/-- the bits of a word -/
def wdB (ls : List Int) (s : Nat) : List Bool := bitsN (wordN ls (s : Int)).toNat (ls.getD s 0).toNat
theorem wdB_len (ls : List Int) (s : Nat) : (wdB ls s).length = (ls.getD s 0).toNat := bitsN_len _ _
theorem wdB_val {ls : List Int} (h : Ln ls) {s : Nat} (hs : s < ls.length) (hl : 0 < ls.getD s 0) : val (wdB ls s) = wordN ls (s : Int) := by
  have h1 := wordN_lt h (s := (s : Int)) (by omega) (by omega) (by rw [Int.toNat_natCast]; exact hl)
  have h2 := (plc_mul h (s := (s : Int)) (by omega) (by omega) (by rw [Int.toNat_natCast]; exact hl)).2
  rw [Int.toNat_natCast] at h1
  unfold wdB
  rw [val_bitsN, Nat.mod_eq_of_lt]
  · omega
  · have := two_nat (ls.getD s 0).toNat
    omega
/-- no word begins another one -/
theorem no_begin {ls : List Int} (h : Ln ls) {r s : Nat} (hr : r < ls.length) (hs : s < ls.length) (lr : 0 < ls.getD r 0) (l_s : 0 < ls.getD s 0) {Q : List Bool} (e : wdB ls s = wdB ls r ++ Q) : r = s := by
  refine Classical.byContradiction fun hne => ?_
  have a1 := plc_mul h (s := (s : Int)) (by omega) (by omega) (by rw [Int.toNat_natCast]; exact l_s)
  have a2 := plc_mul h (s := (r : Int)) (by omega) (by omega) (by rw [Int.toNat_natCast]; exact lr)
  have a3 := plc_lt h (s := (s : Int)) (by omega) (by omega) (by rw [Int.toNat_natCast]; exact l_s) (r := (r : Int)) (by omega) (by omega) (by rw [Int.toNat_natCast]; exact lr) (by omega)
  have b1 := h.at (s := (s : Int)) (by omega) (by omega)
  have b2 := h.at (s := (r : Int)) (by omega) (by omega)
  simp only [Int.toNat_natCast] at a1 a2 a3 b1 b2
  have hv := congrArg val e
  have hlen := congrArg List.length e
  rw [val_cat, wdB_val h hs l_s, wdB_val h hr lr] at hv
  rw [List.length_append, wdB_len, wdB_len] at hlen
  have hq := val_bd Q
  have hpow : (2 : Int) ^ (15 - ls.getD r 0).toNat = 2 ^ Q.length * 2 ^ (15 - ls.getD s 0).toNat := by
    rw [← Int.pow_add]; congr 1; omega
  have hpp : (0 : Int) < 2 ^ (15 - ls.getD s 0).toNat := Int.pow_pos (by decide)
  rw [a1.1, a2.1, hpow, hv] at a3
  have hpq : (0 : Int) < 2 ^ Q.length := Int.pow_pos (by decide)
  generalize (2 : Int) ^ (15 - ls.getD s 0).toNat = c at *
  generalize (2 : Int) ^ Q.length = q at *
  generalize wordN ls (r : Int) = w at *
  generalize val Q = v at *
  have e1 : (w * q + v) * c = w * (q * c) + v * c := by rw [Int.add_mul, Int.mul_assoc]
  rw [e1] at a3
  have hvc : v * c + c ≤ q * c := by
    have : (v + 1) * c ≤ q * c := Int.mul_le_mul_of_nonneg_right (by omega) (by omega)
    rw [Int.add_mul, Int.one_mul] at this; exact this
  have hv0 : 0 ≤ v * c := Int.mul_nonneg hq.1 (by omega)
  generalize v * c = vc at *
  generalize q * c = qc at *
  generalize w * qc = wq at *
  omega
theorem fndW_hit {ls : List Int} (h : Ln ls) {s : Nat} (hs : s < ls.length) (hl : 0 < ls.getD s 0) : fndW ls (wdB ls s).length (val (wdB ls s)) = some s := by
  cases e : fndW ls (wdB ls s).length (val (wdB ls s)) with
  | none => exact absurd ⟨hl, by rw [wdB_len]; omega, (wdB_val h hs hl).symm⟩ (fndW_none e hs)
  | some r =>
    obtain ⟨h1, h2, h3, h4⟩ := fndW_some e
    have : wdB ls s = wdB ls r ++ [] := by
      rw [List.append_nil]
      refine val_inj ?_ ?_
      · rw [wdB_len ls r, h3]; omega
      · rw [wdB_val h h1 h2, h4]
    rw [no_begin h h1 hs h2 hl this]
def nxS (ls : List Int) : Nat → Nat → Int → List Bool → Option (Nat × Nat)
  | 0, _, _, _ => none
  | _ + 1, _, _, [] => none
  | f + 1, z, n, b :: B => match fndW ls (z + 1) (2 * n + b2i b) with
    | some s => some (s, z + 1)
    | none => nxS ls f (z + 1) (2 * n + b2i b) B
theorem nxS_word {ls : List Int} (h : Ln ls) {s : Nat} (hs : s < ls.length) (hl : 0 < ls.getD s 0) (X : List Bool) : ∀ (Q P : List Bool) (f : Nat), P ++ Q = wdB ls s → Q ≠ [] → Q.length ≤ f → nxS ls f P.length (val P) (Q ++ X) = some (s, (wdB ls s).length)
  | [], _, _, _, e, _ => absurd rfl e
  | b :: Q, P, 0, _, _, e => by simp at e
  | b :: Q, P, f + 1, e, _, hf => by
    show (match fndW ls (P.length + 1) (2 * val P + b2i b) with | some s => some (s, P.length + 1) | none => nxS ls f (P.length + 1) (2 * val P + b2i b) (Q ++ X)) = _
    rw [← val_snoc, show P.length + 1 = (P ++ [b]).length by simp]
    cases Q with
    | nil =>
      rw [e, fndW_hit h hs hl]
    | cons c Q =>
      have hno : fndW ls (P ++ [b]).length (val (P ++ [b])) = none := by
        cases e2 : fndW ls (P ++ [b]).length (val (P ++ [b])) with
        | none => rfl
        | some r =>
          exfalso
          obtain ⟨h1, h2, h3, h4⟩ := fndW_some e2
          have hpb : P ++ [b] = wdB ls r := by
            refine val_inj ?_ ?_
            · rw [wdB_len ls r, h3]; omega
            · rw [wdB_val h h1 h2, h4]
          have e3 : wdB ls s = wdB ls r ++ (c :: Q) := by rw [← hpb, ← e]; simp
          have := no_begin h h1 hs h2 hl e3
          subst this
          have := congrArg List.length e3
          simp at this
      rw [hno]
      exact nxS_word h hs hl X (c :: Q) (P ++ [b]) f (by rw [← e]; simp) (by simp) (by simp at hf ⊢; omega)
theorem nxS_hit {ls : List Int} (h : Ln ls) {s : Nat} (hs : s < ls.length) (hl : 0 < ls.getD s 0) (X : List Bool) : nxS ls 15 0 0 (wdB ls s ++ X) = some (s, (wdB ls s).length) := by
  have hb := h.at (s := (s : Int)) (by omega) (by omega)
  rw [Int.toNat_natCast] at hb
  exact nxS_word h hs hl X (wdB ls s) [] 15 rfl (fun e => by have := congrArg List.length e; rw [wdB_len] at this; have h0 : (ls.getD s 0).toNat = 0 := this; omega) (by rw [wdB_len]; omega)
theorem nxS_inv {ls : List Int} : ∀ (f : Nat) (B P : List Bool) {s z : Nat}, nxS ls f P.length (val P) B = some (s, z) → ∃ Q X, B = Q ++ X ∧ z = P.length + Q.length ∧ fndW ls z (val (P ++ Q)) = some s
  | 0, _, _, _, _, e => by cases e
  | f + 1, [], _, _, _, e => by cases e
  | f + 1, b :: B, P, s, z, e => by
    have e : (match fndW ls (P.length + 1) (2 * val P + b2i b) with | some s => some (s, P.length + 1) | none => nxS ls f (P.length + 1) (2 * val P + b2i b) B) = some (s, z) := e
    rw [← val_snoc, show P.length + 1 = (P ++ [b]).length by simp] at e
    split at e
    · rename_i r h1
      cases e
      exact ⟨[b], B, rfl, by simp, h1⟩
    · obtain ⟨Q, X, h1, h2, h3⟩ := nxS_inv f B (P ++ [b]) e
      refine ⟨b :: Q, X, by rw [h1]; rfl, by rw [h2]; simp; omega, ?_⟩
      rw [show P ++ b :: Q = P ++ [b] ++ Q by simp]; exact h3
theorem nxS_of {ls : List Int} (h : Ln ls) {B : List Bool} {s z : Nat} (e : nxS ls 15 0 0 B = some (s, z)) : s < ls.length ∧ 0 < ls.getD s 0 ∧ z = (wdB ls s).length ∧ B = wdB ls s ++ B.drop z := by
  obtain ⟨Q, X, h1, h2, h3⟩ := nxS_inv 15 B [] e
  obtain ⟨g1, g2, g3, g4⟩ := fndW_some h3
  have hz : z = (wdB ls s).length := by rw [wdB_len, g3]; omega
  have hQ : Q = wdB ls s := val_inj (by rw [← hz]; simp at h2; omega) (by rw [wdB_val h g1 g2, g4]; rfl)
  refine ⟨g1, g2, hz, ?_⟩
  rw [h1, hQ, hz, List.drop_left]
/-- a token is read -/
def tkR (ls : List Int) (many made : Nat) (B : List Bool) : Option (Tk × List Bool) :=
  match nxS ls 15 0 0 B with
  | none => none
  | some (s, z) => if s = 32 then
      (if (B.drop z).length < 12 then none else
        if (made : Int) < val ((B.drop z).take 8) + 1 ∨ (many : Int) - made < val (((B.drop z).drop 8).take 4) + 1 then none
        else some (.back (val ((B.drop z).take 8) + 1) (val (((B.drop z).drop 8).take 4) + 1), (B.drop z).drop 12))
    else if (B.drop z).length < 3 then none else some (.byte (8 * (s : Int) + val ((B.drop z).take 3)), (B.drop z).drop 3)
def unp (ls : List Int) (many : Nat) : Nat → List Int → List Bool → Option (List Int × List Bool)
  | 0, _, _ => none
  | f + 1, made, B => if made.length < many then (match tkR ls many made.length B with
    | none => none
    | some (t, B') => unp ls many f (stp made t) B') else some (made, B)
theorem tkB_eq (ls : List Int) {t : Tk} (h : 0 ≤ sy t) : tkB ls t = wdB ls (sy t).toNat ++ tkE t := by
  unfold tkB wdB; rw [show (((sy t).toNat : Nat) : Int) = sy t by omega]
theorem stp_lenE (r r' : List Int) (t : Tk) (h : r.length = r'.length) : (stp r t).length = (stp r' t).length := by
  cases t with
  | byte b => show (r ++ [b]).length = (r' ++ [b]).length; simp [h]
  | back d l => show (cp d.toNat l.toNat r).length = (cp d.toNat l.toNat r').length; rw [cp_len, cp_len, h]
theorem tkR_of {ls : List Int} (h : Ln ls) (hl : ls.length = 33) {many made : Nat} (hmm : many ≤ 255) {B B' : List Bool} {t : Tk} (e : tkR ls many made B = some (t, B')) : Vt made t ∧ 0 < ls.getD (sy t).toNat 0 ∧ B = tkB ls t ++ B' ∧ (made < many → (stp (List.replicate made 0) t).length ≤ many) := by
  unfold tkR at e
  split at e
  · cases e
  · rename_i s z h1
    obtain ⟨g1, g2, g3, g4⟩ := nxS_of h h1
    split at e
    · rename_i hs
      subst hs
      split at e
      · cases e
      · rename_i h12
        split at e
        · cases e
        · rename_i hdl
          cases e
          have v8 := val_bd ((B.drop z).take 8)
          have v4 := val_bd (((B.drop z).drop 8).take 4)
          have l8 : ((B.drop z).take 8).length = 8 := by rw [List.length_take]; omega
          have l4 : (((B.drop z).drop 8).take 4).length = 4 := by rw [List.length_take, List.length_drop]; omega
          rw [l8, show (2 : Int) ^ 8 = 256 from rfl] at v8
          rw [l4, show (2 : Int) ^ 4 = 16 from rfl] at v4
          refine ⟨⟨by omega, by omega, by omega, by omega⟩, g2, ?_, fun _ => ?_⟩
          · rw [tkB_eq ls (show (0 : Int) ≤ sy (.back _ _) by show (0 : Int) ≤ 32; decide)]
            show B = wdB ls 32 ++ (bitsN (val ((B.drop z).take 8) + 1 - 1).toNat 8 ++ bitsN (val (((B.drop z).drop 8).take 4) + 1 - 1).toNat 4) ++ _
            rw [show val ((B.drop z).take 8) + 1 - 1 = val ((B.drop z).take 8) by omega, show val (((B.drop z).drop 8).take 4) + 1 - 1 = val (((B.drop z).drop 8).take 4) by omega]
            have b8 := bits_back ((B.drop z).take 8)
            have b4 := bits_back (((B.drop z).drop 8).take 4)
            rw [l8] at b8
            rw [l4] at b4
            rw [b8, b4, List.append_assoc, List.append_assoc]
            have e1 : ((B.drop z).drop 8).take 4 ++ (B.drop z).drop 12 = (B.drop z).drop 8 := by
              have := List.take_append_drop 4 ((B.drop z).drop 8)
              rw [show ((B.drop z).drop 8).drop 4 = (B.drop z).drop 12 from by rw [List.drop_drop, List.drop_drop]] at this; exact this
            rw [e1, List.take_append_drop]
            exact g4
          · show (cp _ _ (List.replicate made 0)).length ≤ many
            rw [cp_len, List.length_replicate]
            omega
    · rename_i hs
      split at e
      · cases e
      · rename_i h3
        cases e
        have v3 := val_bd ((B.drop z).take 3)
        have l3 : ((B.drop z).take 3).length = 3 := by rw [List.length_take]; omega
        rw [l3, show (2 : Int) ^ 3 = 8 from rfl] at v3
        have hsy : sy (.byte (8 * (s : Int) + val ((B.drop z).take 3))) = (s : Int) := by show (8 * (s : Int) + val ((B.drop z).take 3)) / 8 = _; omega
        refine ⟨⟨by omega, by omega⟩, by rw [hsy, Int.toNat_natCast]; exact g2, ?_, fun hm => ?_⟩
        · rw [tkB_eq ls (by rw [hsy]; omega), hsy, Int.toNat_natCast]
          show B = wdB ls s ++ bitsN ((8 * (s : Int) + val ((B.drop z).take 3)) % 8).toNat 3 ++ _
          rw [show (8 * (s : Int) + val ((B.drop z).take 3)) % 8 = val ((B.drop z).take 3) by omega]
          have b3 := bits_back ((B.drop z).take 3)
          rw [l3] at b3
          rw [b3, List.append_assoc, List.take_append_drop]
          exact g4
        · show (List.replicate made (0 : Int) ++ [8 * (s : Int) + val ((B.drop z).take 3)]).length ≤ many
          rw [List.length_append, List.length_replicate]; show made + 1 ≤ many; omega
theorem unp_of {ls : List Int} (h : Ln ls) (hl : ls.length = 33) {many : Nat} (hmm : many ≤ 255) : ∀ (f : Nat) (made : List Int) (B : List Bool) {made' : List Int} {B' : List Bool}, made.length ≤ many → unp ls many f made B = some (made', B') → ∃ ts, Va made ts ∧ (∀ t ∈ ts, 0 < ls.getD (sy t).toNat 0) ∧ made' = spr made ts ∧ B = tsB ls ts ++ B' ∧ made'.length = many
  | 0, _, _, _, _, _, e => by cases e
  | f + 1, made, B, made', B', hm, e => by
    unfold unp at e
    split at e
    · rename_i hlt
      split at e
      · cases e
      · rename_i t B1 h1
        obtain ⟨v1, v2, v3, v4⟩ := tkR_of h hl hmm h1
        have v4 := v4 hlt
        rw [stp_lenE _ made t (by simp)] at v4
        obtain ⟨ts, u1, u2, u3, u4, u5⟩ := unp_of h hl hmm f (stp made t) B1 v4 e
        refine ⟨t :: ts, ⟨v1, u1⟩, ?_, u3, ?_, u5⟩
        · intro t' ht
          rcases List.mem_cons.mp ht with rfl | ht
          · exact v2
          · exact u2 t' ht
        · rw [v3, u4]; unfold tsB; rw [List.map_cons, List.flatten_cons, List.append_assoc]
    · rename_i hge
      cases e
      exact ⟨[], trivial, fun t ht => (by cases ht), rfl, rfl, by omega⟩
/-- more room for steps than bytes lack changes nothing -/
theorem unp_fuel {ls : List Int} {many : Nat} : ∀ {f g : Nat} {made : List Int} {B : List Bool}, many - made.length < f → many - made.length < g → unp ls many f made B = unp ls many g made B
  | 0, _, _, _, h, _ => by omega
  | f + 1, 0, _, _, _, h => by omega
  | f + 1, g + 1, made, B, hf, hg => by
    unfold unp
    split
    · rename_i hlt
      cases e : tkR ls many made.length B with
      | none => rfl
      | some tb =>
        obtain ⟨t, B'⟩ := tb
        dsimp only
        have hst : made.length < (stp made t).length := by
          unfold tkR at e
          split at e
          · cases e
          · rename_i s z _
            split at e
            · split at e
              · cases e
              · split at e
                · cases e
                · cases e
                  show made.length < (cp _ _ made).length
                  rw [cp_len]
                  have := (val_bd (((B.drop z).drop 8).take 4)).1
                  omega
            · split at e
              · cases e
              · cases e
                show made.length < (made ++ [_]).length
                rw [List.length_append]; show _ < made.length + 1; omega
        exact unp_fuel (by omega) (by omega)
    · rfl
def pkB (ls : List Int) (ts : List Tk) : List Bool := padB (taB ls) ++ tsB ls ts
def lsOf (B : List Bool) : List Int := (List.range 33).map fun i => val ((B.drop (4 * i)).take 4)
theorem lsOf_len (B : List Bool) : (lsOf B).length = 33 := by unfold lsOf; simp
theorem ta_lsOf {B : List Bool} (h : 132 ≤ B.length) : taB (lsOf B) = B.take 132 := by
  have gen : ∀ n, 4 * n ≤ B.length → taB ((List.range n).map fun i => val ((B.drop (4 * i)).take 4)) = B.take (4 * n) := by
    intro n
    induction n with
    | zero => intro _; rfl
    | succ n ih =>
      intro hn
      rw [List.range_succ, List.map_append, List.map_cons, List.map_nil, taB_snoc, ih (by omega)]
      have hl : ((B.drop (4 * n)).take 4).length = 4 := by rw [List.length_take, List.length_drop]; omega
      have hb := bits_back ((B.drop (4 * n)).take 4)
      rw [hl] at hb
      rw [hb, show 4 * (n + 1) = 4 * n + 4 by omega, List.take_add]
  exact gen 33 h
def pkAt (R : List Int) (many : Nat) : Option (List Int × Nat) :=
  if many = 0 ∨ R.length < 17 then none else
  if val (((bitsOf R).drop 132).take 4) ≠ 0 ∨ 32768 < rmL (lsOf (bitsOf R)) ∨ (((lsOf (bitsOf R)).take 32).any fun l => decide (0 < l)) = false then none else
  match unp (lsOf (bitsOf R)) many (many + 1) [] ((bitsOf R).drop 136) with
  | none => none
  | some (made, B') => if val (B'.take (B'.length % 8)) ≠ 0 then none else some (made, R.length - B'.length / 8)
structure PkOk (ls : List Int) (ts : List Tk) (told E : List Int) : Prop where
  ln : Ln ls
  l33 : ls.length = 33
  has : ((ls.take 32).any fun l => decide (0 < l)) = true
  va : Va [] ts
  pos : ∀ t ∈ ts, 0 < ls.getD (sy t).toNat 0
  spr : spr [] ts = told
  ne : told.length ≠ 0
  le : told.length ≤ 255
  eq : E = byL (padB (pkB ls ts))
theorem pad33 {ls : List Int} (hl : ls.length = 33) : padB (taB ls) = taB ls ++ [false, false, false, false] := by
  show taB ls ++ List.replicate (padd (taB ls).length) false = _
  rw [taB_len, hl]; rfl
theorem bitsOf_take (bs : List Int) (n : Nat) : bitsOf (bs.take n) = (bitsOf bs).take (8 * n) := by
  induction bs generalizing n with
  | nil => simp [bitsOf]
  | cons b bs ih =>
    cases n with
    | zero => rfl
    | succ n =>
      show bitsN b.toNat 8 ++ bitsOf (bs.take n) = (bitsN b.toNat 8 ++ bitsOf bs).take (8 * (n + 1))
      have h8 := bitsN_len b.toNat 8
      have ht : (bitsN b.toNat 8).take (8 * (n + 1)) = bitsN b.toNat 8 := List.take_of_length_le (by omega)
      rw [ih n, List.take_append, ht, h8, show 8 * (n + 1) - 8 = 8 * n by omega]
theorem bitsOf_drop (bs : List Int) (n : Nat) : bitsOf (bs.drop n) = (bitsOf bs).drop (8 * n) := by
  induction bs generalizing n with
  | nil => simp [bitsOf]
  | cons b bs ih =>
    cases n with
    | zero => rfl
    | succ n =>
      show bitsOf (bs.drop n) = (bitsN b.toNat 8 ++ bitsOf bs).drop (8 * (n + 1))
      rw [ih n, show 8 * (n + 1) = (bitsN b.toNat 8).length + 8 * n by rw [bitsN_len]; omega, ← List.drop_drop, List.drop_left]
theorem byte_back : ∀ b : Nat, b < 256 → ∃ x1 x2 x3 x4 x5 x6 x7 x8, bitsN b 8 = [x1, x2, x3, x4, x5, x6, x7, x8] ∧ val [x1, x2, x3, x4, x5, x6, x7, x8] = (b : Int) := fun b hb => by
  refine ⟨_, _, _, _, _, _, _, _, rfl, ?_⟩
  have := val_bitsN b 8
  rw [Nat.mod_eq_of_lt (by omega)] at this
  exact this
theorem byL_bitsOf : ∀ {bs : List Int}, (∀ b ∈ bs, 0 ≤ b ∧ b ≤ 255) → byL (bitsOf bs) = bs
  | [], _ => rfl
  | b :: bs, h => by
    have hb := h b List.mem_cons_self
    obtain ⟨x1, x2, x3, x4, x5, x6, x7, x8, e1, e2⟩ := byte_back b.toNat (by omega)
    show byL (bitsN b.toNat 8 ++ bitsOf bs) = _
    rw [e1]
    show val [x1, x2, x3, x4, x5, x6, x7, x8] :: byL (bitsOf bs) = _
    rw [e2, byL_bitsOf (fun y hy => h y (List.mem_cons_of_mem _ hy)), show ((b.toNat : Nat) : Int) = b by omega]
theorem val_eq0 {W : List Bool} (h : val W = 0) : W = List.replicate W.length false := val_inj (by rw [List.length_replicate]) (by rw [h, val_zero])
theorem pk_of {R : List Int} (hb : ∀ b ∈ R, 0 ≤ b ∧ b ≤ 255) {many : Nat} (hm : many ≤ 255) {told : List Int} {n : Nat} (h : pkAt R many = some (told, n)) : n ≤ R.length ∧ told.length = many ∧ ∃ ls ts, PkOk ls ts told (R.take n) := by
  unfold pkAt at h
  split at h
  · cases h
  · rename_i h0
    split at h
    · cases h
    · rename_i h1
      have hbl := bitsOf_len R
      have hta := ta_lsOf (B := bitsOf R) (by omega)
      have hlen := lsOf_len (bitsOf R)
      have hLn : Ln (lsOf (bitsOf R)) := ⟨fun l hl => by
        unfold lsOf at hl
        obtain ⟨i, hi, rfl⟩ := List.mem_map.mp hl
        rw [List.mem_range] at hi
        have hv := val_bd (((bitsOf R).drop (4 * i)).take 4)
        have hl4 : (((bitsOf R).drop (4 * i)).take 4).length = 4 := by rw [List.length_take, List.length_drop]; omega
        rw [hl4, show (2 : Int) ^ 4 = 16 from rfl] at hv
        omega, by omega⟩
      have hhas : ((lsOf (bitsOf R)).take 32).any (fun l => decide (0 < l)) = true := by
        cases e : ((lsOf (bitsOf R)).take 32).any (fun l => decide (0 < l)) with
        | true => rfl
        | false => exact absurd (.inr (.inr e)) h1
      have hz : val (((bitsOf R).drop 132).take 4) = 0 := Classical.byContradiction fun hne => h1 (.inl hne)
      have hz4 := val_eq0 hz
      have hl4 : (((bitsOf R).drop 132).take 4).length = 4 := by rw [List.length_take, List.length_drop]; omega
      rw [hl4] at hz4
      generalize lsOf (bitsOf R) = ls at *
      split at h
      · cases h
      · rename_i made B' hu
        split at h
        · cases h
        · rename_i hz2
          cases h
          have hz2 : val (B'.take (B'.length % 8)) = 0 := Classical.byContradiction fun hne => hz2 hne
          obtain ⟨ts, u1, u2, u3, u4, u5⟩ := unp_of hLn hlen hm _ [] _ (by simp) hu
          have hall : bitsOf R = (padB (taB ls) ++ tsB ls ts) ++ B' := by
            rw [pad33 hlen, hta]
            have e1 : (bitsOf R).drop 132 = [false, false, false, false] ++ (bitsOf R).drop 136 := by
              have := List.take_append_drop 4 ((bitsOf R).drop 132)
              rw [List.drop_drop, hz4] at this
              exact this.symm
            rw [List.append_assoc, List.append_assoc, ← u4]
            have := List.take_append_drop 132 (bitsOf R)
            rw [e1] at this
            exact this.symm
          have hpk : bitsOf R = pkB ls ts ++ B' := hall
          have hlenA := congrArg List.length hpk
          rw [List.length_append, hbl] at hlenA
          have hmod : B'.length % 8 = padd (pkB ls ts).length := by unfold padd; omega
          refine ⟨Nat.sub_le _ _, u5, ls, ts, hLn, hlen, hhas, u1, u2, u3.symm, by rw [u5]; omega, by rw [u5]; exact hm, ?_⟩
          have hz3 := val_eq0 hz2
          have hlt : (B'.take (B'.length % 8)).length = padd (pkB ls ts).length := by rw [List.length_take, ← hmod]; exact Nat.min_eq_left (Nat.mod_le _ _)
          have hcut : bitsOf (R.take (R.length - B'.length / 8)) = padB (pkB ls ts) := by
            rw [bitsOf_take, hpk]
            show _ = pkB ls ts ++ List.replicate (padd (pkB ls ts).length) false
            rw [show 8 * (R.length - B'.length / 8) = (pkB ls ts).length + B'.length % 8 by omega, List.take_append, List.take_of_length_le (by omega), show (pkB ls ts).length + B'.length % 8 - (pkB ls ts).length = B'.length % 8 by omega, hz3, hlt]
          rw [← hcut, byL_bitsOf (fun y hy => hb y (List.mem_of_mem_take hy))]
def bdAt (k : Int) (Y : List Int) (m : Int) : Option (List Int × Nat) := if k = 1 then pkAt Y m.toNat else if k ≠ 0 ∨ (Y.length : Int) < m then none else some (Y.take m.toNat, m.toNat)
def pcAt (R : List Int) : Option (Int × Int × Int × List Int × Nat) :=
  match R with
  | a :: b :: k :: x :: n :: m :: Y =>
    if a ≠ 165 ∨ b ≠ 90 ∨ 254 < x ∨ 254 < n then none else
    match bdAt k Y m with
    | none => none
    | some (told, z) => if (Y.drop z).take 2 ≠ crcB ([k, x, n, m] ++ Y.take z) then none else some (k, x, n, told, z + 8)
  | _ => none
/-- a body, as it is written -/
inductive BdOk : Int → List Int → List Int → Prop
  | plain {told : List Int} : told.length ≤ 255 → BdOk 0 told told
  | packed {ls : List Int} {ts : List Tk} {told E : List Int} : PkOk ls ts told E → BdOk 1 told E
theorem BdOk.le {k : Int} {told E : List Int} (h : BdOk k told E) : told.length ≤ 255 := by
  cases h with
  | plain h => exact h
  | packed h => exact h.le
theorem bd_of {k : Int} {Y : List Int} (hb : ∀ b ∈ Y, 0 ≤ b ∧ b ≤ 255) {m : Int} (h0 : 0 ≤ m) (h1 : m ≤ 255) {told : List Int} {z : Nat} (h : bdAt k Y m = some (told, z)) : z ≤ Y.length ∧ (told.length : Int) = m ∧ BdOk k told (Y.take z) := by
  unfold bdAt at h
  split at h
  · rename_i hk
    subst hk
    obtain ⟨e1, e2, ls, ts, e3⟩ := pk_of hb (by omega) h
    exact ⟨e1, by omega, .packed e3⟩
  · split at h
    · cases h
    · rename_i hk
      cases h
      have hk0 : k = 0 := Classical.byContradiction fun hne => hk (.inl hne)
      subst hk0
      have hl : (Y.take m.toNat).length = m.toNat := by rw [List.length_take]; omega
      exact ⟨by omega, by omega, .plain (by omega)⟩
structure PcOk (k x n : Int) (told E : List Int) : Prop where
  x0 : 0 ≤ x ∧ x ≤ 254
  n0 : 0 ≤ n ∧ n ≤ 254
  bd : ∃ Y, BdOk k told Y ∧ E = [165, 90] ++ ([k, x, n, (told.length : Int)] ++ Y) ++ crcB ([k, x, n, (told.length : Int)] ++ Y)
theorem pc_of {R : List Int} (hb : ∀ b ∈ R, 0 ≤ b ∧ b ≤ 255) {k x n : Int} {told : List Int} {z : Nat} (h : pcAt R = some (k, x, n, told, z)) : z ≤ R.length ∧ PcOk k x n told (R.take z) := by
  unfold pcAt at h
  split at h
  · rename_i a b k' x' n' m Y
    have hY : ∀ y ∈ Y, 0 ≤ y ∧ y ≤ 255 := fun y hy => hb y (by simp [hy])
    have hx := hb x' (by simp)
    have hn := hb n' (by simp)
    have hm := hb m (by simp)
    split at h
    · cases h
    · rename_i h1
      split at h
      · cases h
      · rename_i told' z' h2
        obtain ⟨g1, g2, g3⟩ := bd_of hY hm.1 hm.2 h2
        split at h
        · cases h
        · rename_i h3
          cases h
          have h3 : (Y.drop z').take 2 = crcB ([k, x, n, m] ++ Y.take z') := Classical.byContradiction fun hne => h3 hne
          have hl2 := congrArg List.length h3
          rw [crcB_len, List.length_take, List.length_drop] at hl2
          refine ⟨by simp only [List.length_cons]; omega, by omega, by omega, Y.take z', g3, ?_⟩
          have ha : a = 165 := Classical.byContradiction fun hne => h1 (.inl hne)
          have hb' : b = 90 := Classical.byContradiction fun hne => h1 (.inr (.inl hne))
          rw [ha, hb', g2, ← h3]
          show [165, 90, k, x, n, m] ++ Y.take (z' + 2) = _
          rw [List.take_add]; simp
  · cases h
abbrev ufd (k : Nat) (many : Int) (m n : Nat) : List (Str × D) := [("reader", .cid k), ("many", .int many), ("made", .cid m), ("known", .cid n)]
abbrev oU (k : Nat) (many : Int) (m n : Nat) : Cn := .obj 4 (ufd k many m n)
def knE (ls : List Int) (s : Nat) : Option (List Key × D) := if 0 < ls.getD s 0 then some ([.inl (ls.getD s 0), .inl (wordN ls (s : Int))], .int (s : Int)) else none
def knL (ls : List Int) (i : Nat) : List (List Key × D) := (List.range i).filterMap (knE ls)
theorem kn_vl (ls : List Int) (z : Nat) (n : Int) : vl (knL ls ls.length) [.inl (z : Int), .inl n] = (fndW ls z n).map fun s => .int ((s : Nat) : Int) := by
  unfold vl knL fndW
  generalize List.range ls.length = L
  induction L with
  | nil => rfl
  | cons s L ih =>
    rw [List.filterMap_cons, List.find?_cons]
    by_cases hp : 0 < ls.getD s 0
    · have e : knE ls s = some ([.inl (ls.getD s 0), .inl (wordN ls (s : Int))], .int (s : Int)) := if_pos hp
      rw [e]
      dsimp only
      rw [List.find?_cons]
      by_cases hk : ls.getD s 0 = (z : Int) ∧ wordN ls (s : Int) = n
      · rw [decide_eq_true (show 0 < ls.getD s 0 ∧ ls.getD s 0 = (z : Int) ∧ wordN ls (s : Int) = n from ⟨hp, hk⟩), decide_eq_true (by rw [hk.1, hk.2])]; rfl
      · rw [decide_eq_false (show ¬ (0 < ls.getD s 0 ∧ ls.getD s 0 = (z : Int) ∧ wordN ls (s : Int) = n) from fun h => hk h.2), decide_eq_false (by
          intro h
          have h : ([Sum.inl (ls.getD s 0), Sum.inl (wordN ls (s : Int))] : List Key) = [Sum.inl (z : Int), Sum.inl n] := h
          injection h with h1 h2
          injection h2 with h2 _
          injection h1 with h1
          injection h2 with h2
          exact hk ⟨h1, h2⟩)]
        exact ih
    · have e : knE ls s = none := if_neg hp
      rw [e, decide_eq_false (show ¬ (0 < ls.getD s 0 ∧ ls.getD s 0 = (z : Int) ∧ wordN ls (s : Int) = n) from fun h => hp h.1)]
      exact ih
theorem kn_new {ls : List Int} (h : Ln ls) {i : Nat} (hi : i < ls.length) (hp : 0 < ls.getD i 0) : pu (knL ls i) [.inl (ls.getD i 0), .inl (wordN ls (i : Int))] (.int (i : Int)) = knL ls (i + 1) := by
  have hno : ((knL ls i).any fun p => decide (p.1 = [.inl (ls.getD i 0), .inl (wordN ls (i : Int))])) = false := by
    rw [List.any_eq_false]
    intro p hm hd
    have hd := of_decide_eq_true hd
    unfold knL at hm
    obtain ⟨r, hr, e⟩ := List.mem_filterMap.mp hm
    rw [List.mem_range] at hr
    unfold knE at e
    split at e
    · rename_i hrp
      cases e
      have hd : ([Sum.inl (ls.getD r 0), Sum.inl (wordN ls (r : Int))] : List Key) = [Sum.inl (ls.getD i 0), Sum.inl (wordN ls (i : Int))] := hd
      injection hd with h1 h2
      injection h2 with h2 _
      injection h1 with h1
      injection h2 with h2
      have := no_begin h (r := r) (s := i) (by omega) hi hrp hp (Q := []) (by
        rw [List.append_nil]
        exact val_inj (by rw [wdB_len, wdB_len, h1]) (by rw [wdB_val h hi hp, wdB_val h (by omega) hrp, h2]))
      omega
    · cases e
  unfold pu
  rw [hno, if_neg (by decide)]
  unfold knL
  rw [List.range_succ, List.filterMap_append]
  congr 1
  rw [List.filterMap_cons, show knE ls i = some _ from if_pos hp]; rfl
theorem kn_old {ls : List Int} {i : Nat} (hp : ¬ 0 < ls.getD i 0) : knL ls (i + 1) = knL ls i := by
  unfold knL
  rw [List.range_succ, List.filterMap_append, List.filterMap_cons, show knE ls i = none from if_neg hp]; simp
theorem kn_len (ls : List Int) (i : Nat) : (knL ls i).length ≤ i := by
  unfold knL
  have := List.length_filterMap_le (knE ls) (List.range i)
  rw [List.length_range] at this; exact this
theorem app_at2 (M : List Cn) (a b c : Cn) (r : List Cn) : (M ++ a :: b :: c :: r)[M.length + 2]? = some c := by rw [List.getElem?_append_right (by omega), show M.length + 2 - M.length = 2 by omega]; rfl
theorem app_set2 (M : List Cn) (a b c d : Cn) (r : List Cn) : (M ++ a :: b :: c :: r).set (M.length + 2) d = M ++ a :: b :: d :: r := by rw [List.set_append_right _ _ (by omega), show M.length + 2 - M.length = 2 by omega]; rfl
theorem uinit_ok {M : List Cn} {k many : Nat} {ls : List Int} (h : Ln ls) (hl : ls.length = 33) : m_Unpacker_init [.cid M.length, .cid k, .lst ((List.range ls.length).map (wrd ls)), .int (many : Int)] (M ++ [.obj 4 []]) = .ok (.val .non) (M ++ [oU k many (M.length + 1) (M.length + 2), .lst [], .dT (knL ls ls.length)]) := by
  have l1 : ∀ a : Cn, (M ++ [a]).length = M.length + 1 := fun a => by simp
  have l2 : ∀ a b : Cn, (M ++ [a, b]).length = M.length + 2 := fun a b => by simp
  refine fo_ok (P := fun _ _ => True) ?_
  walk_at "f0"; unfold b_Unpacker_init
  walk_at "w"
  refine ⟨_, _, _, objAt_of (app_at M _ _), ⟨rfl, by simp⟩, ?_⟩
  dsimp only []
  rw [app_set]
  walk_at "w"
  refine ⟨_, _, [("reader", .cid k)], objAt_of (app_at M _ _), ⟨rfl, by simp⟩, ?_⟩
  dsimp only []
  rw [app_set]
  walk_at "w"
  rw [l1, List.append_assoc]
  refine ⟨_, _, [("reader", .cid k), ("many", .int many)], objAt_of (app_at M _ _), ⟨rfl, by simp⟩, ?_⟩
  dsimp only []
  show Ws _ _ (mSeq _ _ ⟨_, (M ++ Cn.obj 4 [("reader", .cid k), ("many", .int many)] :: [Cn.lst []]).set M.length _⟩)
  rw [app_set]
  walk_at "w"
  rw [l2, List.append_assoc]
  refine ⟨_, _, [("reader", .cid k), ("many", .int many), ("made", .cid (M.length + 1))], objAt_of (app_at M _ _), ⟨rfl, by simp⟩, ?_⟩
  dsimp only []
  show Ws _ _ (mFor _ _ _ ⟨_, (M ++ Cn.obj 4 [("reader", .cid k), ("many", .int many), ("made", .cid (M.length + 1))] :: [Cn.lst [], Cn.dT []]).set M.length _⟩)
  rw [app_set]
  walk_at "w"
  refine w_forN (fun i s => ∃ e4 e5 : Option Ent, s = ⟨[some (.fz (.cid M.length)), some (.fz (.cid k)), some (.fz (.lst ((List.range ls.length).map (wrd ls)))), some (.fz (.int (many : Int))), e4, e5], M ++ [oU k many (M.length + 1) (M.length + 2), .lst [], .dT (knL ls i)]⟩) ⟨none, none, rfl⟩ ?_ ?_
  · rintro i y s hi ⟨e4, e5, rfl⟩
    obtain ⟨x, hx, rfl⟩ := enum_get hi
    obtain ⟨s, hs, rfl⟩ := map_get hx
    have hil : i < ls.length := by have := (List.getElem?_eq_some_iff.mp hs).1; rw [List.length_range] at this; exact this
    rw [List.getElem?_range hil] at hs
    cases hs
    have ho := app_at M (oU k many (M.length + 1) (M.length + 2)) [.lst [], .dT (knL ls i)]
    have hkn := app_at2 M (oU k many (M.length + 1) (M.length + 2)) (.lst []) (.dT (knL ls i)) []
    have hkl := kn_len ls i
    walk_at "w"
    by_cases hp : 0 < ls.getD i 0
    · have hw : wrd ls i = tP (ls.getD i 0, wordN ls (i : Int)) := if_pos hp
      rw [hw]
      walk_at "w"
      refine so_setT (i := tP (ls.getD i 0, wordN ls (i : Int))) (l := knL ls i) (getC_cid hkn) (k := [.inl (ls.getD i 0), .inl (wordN ls (i : Int))]) rfl (by show _ < 16777216; omega) ?_
      rw [kn_new h hil hp]
      exact ⟨_, _, by show Stt.mk _ ((M ++ _).set (M.length + 2) _) = _; rw [app_set2]⟩
    · have hw : wrd ls i = .non := if_neg hp
      rw [hw, kn_old hp]
      walk_at "w"
      exact ⟨_, _, rfl⟩
  · rintro s ⟨e4, e5, rfl⟩
    rw [enum_len, List.length_map, List.length_range]
    exact ⟨trivial, rfl⟩
structure UAt (M : List Cn) (k j u m n : Nat) (row : List Int) (p : Nat) (ls : List Int) (many : Nat) (made : List Int) : Prop where
  rd : RAt M k j row p
  ho : M[u]? = some (oU k many m n)
  hm : M[m]? = some (.lst (made.map D.int))
  hn : M[n]? = some (.dT (knL ls ls.length))
  ku : k ≠ u
  km : k ≠ m
  kn : k ≠ n
  jm : j ≠ m
  um : u ≠ m
  nm : n ≠ m
section
variable {M : List Cn} {k j u m n : Nat} {row : List Int} {p : Nat} {ls : List Int} {many : Nat} {made : List Int}
theorem UAt.setR (h : UAt M k j u m n row p ls many made) {q : Nat} (hq : q ≤ 8 * row.length) : UAt (M.set k (oR j q)) k j u m n row q ls many made :=
  ⟨h.rd.set hq, by rw [List.getElem?_set_ne h.ku]; exact h.ho, by rw [List.getElem?_set_ne h.km]; exact h.hm, by rw [List.getElem?_set_ne h.kn]; exact h.hn, h.ku, h.km, h.kn, h.jm, h.um, h.nm⟩
theorem UAt.setM (h : UAt M k j u m n row p ls many made) (made' : List Int) : UAt (M.set m (.lst (made'.map D.int))) k j u m n row p ls many made' :=
  ⟨⟨by rw [List.getElem?_set_ne (fun z => h.km z.symm)]; exact h.rd.ho, by rw [List.getElem?_set_ne (fun z => h.jm z.symm)]; exact h.rd.hl, h.rd.ne, h.rd.bd, h.rd.few, h.rd.le⟩, by rw [List.getElem?_set_ne (fun z => h.um z.symm)]; exact h.ho, List.getElem?_set_self (List.getElem?_eq_some_iff.mp h.hm).1, by rw [List.getElem?_set_ne (fun z => h.nm z.symm)]; exact h.hn, h.ku, h.km, h.kn, h.jm, h.um, h.nm⟩
theorem next_sym_ok (h : UAt M k j u m n row p ls many made) : Fo (fun a M' => match nxS ls 15 0 0 ((bitsOf row).drop p) with
    | none => a = .val .non
    | some (s, z) => a = .val (.int (s : Int)) ∧ UAt M' k j u m n row (p + z) ls many made ∧ p + z ≤ 8 * row.length) (m_Unpacker_next_symbol [.cid u] M) := by
  have hbl := bitsOf_len row
  walk_at "f0"; unfold b_Unpacker_next_symbol
  walk_at "w"
  refine w_while (fun f s => ∃ (i : Nat) (M' : List Cn), s = ⟨[some (.fz (.cid u)), some (.fz (.int (i : Int))), some (.fz (.int (val (((bitsOf row).drop p).take i))))], M'⟩ ∧ f = 15 - i ∧ i ≤ 15 ∧ UAt M' k j u m n row (p + i) ls many made ∧ nxS ls 15 0 0 ((bitsOf row).drop p) = nxS ls (15 - i) i (val (((bitsOf row).drop p).take i)) ((bitsOf row).drop (p + i))) 15 ⟨0, M, rfl, rfl, by omega, h, rfl⟩ ?_ ?_
  · rintro f s ⟨i, M', rfl, rfl, hi, hU, hnx⟩
    have ho := hU.ho
    have hrd := hU.rd.ho
    have hle := hU.rd.le
    walk_at "w"
    refine fo_eq (left_ok hU.rd) ?_
    walk_at "w"
    refine z_if (fun hc => ?_) (fun hc => ?_)
    · walk_at "w"
      refine z_if (fun hc2 => ?_) (fun hc2 => ?_)
      · walk_at "w"
        refine fo_eq (rtake_ok hU.rd (m := 1) (by omega) (by omega)) ?_
        have hb := bitsOf_at (bs := row) (p := p + i) (by omega)
        obtain ⟨b, hb⟩ : ∃ b, (bitsOf row)[p + i]? = some b := ⟨_, hb⟩
        have hcons : (bitsOf row).drop (p + i) = b :: (bitsOf row).drop (p + (i + 1)) := by
          obtain ⟨h1, h2⟩ := List.getElem?_eq_some_iff.mp hb
          rw [List.drop_eq_getElem_cons h1, h2]; rfl
        have htk : ((bitsOf row).drop p).take (i + 1) = ((bitsOf row).drop p).take i ++ [b] := by
          rw [List.take_add_one, List.getElem?_drop, hb]; rfl
        have hv1 : val (((bitsOf row).drop (p + i)).take 1) = b2i b := by
          rw [hcons]; show b2i b * 2 ^ 0 + 0 = _; simp
        rw [hv1]
        have hU2 := hU.setR (q := p + i + 1) (by omega)
        have ho2 := hU2.ho
        have hn2 := hU2.hn
        have hvs : val (((bitsOf row).drop p).take (i + 1)) = 2 * val (((bitsOf row).drop p).take i) + b2i b := by rw [htk, val_snoc]
        rw [hcons, show 15 - i = (15 - (i + 1)) + 1 by omega] at hnx
        have hnx : nxS ls 15 0 0 ((bitsOf row).drop p) = (match fndW ls (i + 1) (2 * val (((bitsOf row).drop p).take i) + b2i b) with | some s => some (s, i + 1) | none => nxS ls (15 - (i + 1)) (i + 1) (2 * val (((bitsOf row).drop p).take i) + b2i b) ((bitsOf row).drop (p + (i + 1)))) := hnx
        rw [← hvs] at hnx
        have hkv := kn_vl ls (i + 1) (val (((bitsOf row).drop p).take (i + 1)))
        walk_at "w"
        rw [← hvs]
        refine w_inDT (viewDT_cid hn2) (k := [.inl ((i + 1 : Nat) : Int), .inl (val (((bitsOf row).drop p).take (i + 1)))]) rfl ?_
        rw [hkv]
        cases e : fndW ls (i + 1) (val (((bitsOf row).drop p).take (i + 1))) with
        | none =>
          rw [e] at hnx
          walk_at "w"
          refine z_b0 rfl ?_
          walk_at "w"
          exact ⟨15 - (i + 1), by omega, i + 1, _, rfl, rfl, by omega, hU2, hnx⟩
        | some s =>
          rw [e] at hnx hkv
          walk_at "w"
          refine z_b1 rfl ?_
          walk_at "w"
          refine w_ixDT (viewDT_cid hn2) (k := [.inl ((i + 1 : Nat) : Int), .inl (val (((bitsOf row).drop p).take (i + 1)))]) rfl hkv ?_
          walk_at "w"
          show match nxS ls 15 0 0 ((bitsOf row).drop p) with | none => _ | some (s, z) => _
          rw [hnx]
          exact ⟨rfl, hU2, by omega⟩
      · walk_at "w"
        show match nxS ls 15 0 0 ((bitsOf row).drop p) with | none => _ | some (s, z) => _
        rw [hnx, show 15 - i = 0 by omega]
        rfl
    · walk_at "w"
      show match nxS ls 15 0 0 ((bitsOf row).drop p) with | none => _ | some (s, z) => _
      have : (bitsOf row).drop (p + i) = [] := List.drop_eq_nil_of_le (by omega)
      rw [hnx, this]
      cases 15 - i <;> rfl
  · intro r hr e; subst e; exact hr
theorem take_byte_ok (h : UAt M k j u m n row p ls many made) {s : Nat} (hs : s < 64) (hl : made.length ≤ 1000) : Fo (fun a M' => if ((bitsOf row).drop p).length < 3 then a = .val (.bl false) else a = .val (.bl true) ∧ UAt M' k j u m n row (p + 3) ls many (made ++ [8 * (s : Int) + val (((bitsOf row).drop p).take 3)])) (m_Unpacker_take_byte [.cid u, .int (s : Int)] M) := by
  have hbl := bitsOf_len row
  have hle := h.rd.le
  have ho := h.ho
  have hrd := h.rd.ho
  walk_at "f0"; unfold b_Unpacker_take_byte
  walk_at "w"
  refine fo_eq (left_ok h.rd) ?_
  walk_at "w"
  refine z_if (fun hc => ?_) (fun hc => ?_)
  · walk_at "w"
    show if _ then _ else _
    rw [if_pos (by rw [List.length_drop]; omega)]
  · have hR := h.setR (q := p + 3) (by omega)
    have hm1 := h.hm
    have hm2 := hR.hm
    walk_at "w"
    refine fo_eq (rtake_ok h.rd (m := 3) (by omega) (by omega)) ?_
    walk_at "w"
    refine w_app (l := made.map D.int) (getC_cid hm2) (by rw [List.length_map]; show _ < 16777216; omega) ?_
    walk_at "w"
    show if _ then _ else _
    rw [if_neg (by rw [List.length_drop]; omega)]
    refine ⟨rfl, ?_⟩
    have := hR.setM (made ++ [8 * (s : Int) + val (((bitsOf row).drop p).take 3)])
    rw [List.map_append] at this
    exact this
theorem take_back_ok (h : UAt M k j u m n row p ls many made) (hl : made.length ≤ 1000) (hm1 : many ≤ 1000) : Fo (fun a M' => if ((bitsOf row).drop p).length < 12 ∨ (made.length : Int) < val (((bitsOf row).drop p).take 8) + 1 ∨ (many : Int) - made.length < val ((((bitsOf row).drop p).drop 8).take 4) + 1 then a = .val (.bl false) else a = .val (.bl true) ∧ UAt M' k j u m n row (p + 12) ls many (cp (val (((bitsOf row).drop p).take 8) + 1).toNat (val ((((bitsOf row).drop p).drop 8).take 4) + 1).toNat made)) (m_Unpacker_take_back [.cid u] M) := by
  have hbl := bitsOf_len row
  have hle := h.rd.le
  have ho := h.ho
  have hrd := h.rd.ho
  walk_at "f0"; unfold b_Unpacker_take_back
  walk_at "w"
  refine fo_eq (left_ok h.rd) ?_
  walk_at "w"
  refine z_if (fun hc => ?_) (fun hc => ?_)
  · walk_at "w"
    show if _ then _ else _
    rw [if_pos (.inl (by rw [List.length_drop]; omega))]
  · have hR := h.setR (q := p + 8) (by omega)
    have ho2 := hR.ho
    have hrd2 := hR.rd.ho
    have hR3 := hR.setR (q := p + 12) (by omega)
    have ho3 := hR3.ho
    have hm3 := hR3.hm
    have hd : (((bitsOf row).drop p).drop 8) = (bitsOf row).drop (p + 8) := by rw [List.drop_drop]
    have hd12 : ¬ ((bitsOf row).drop p).length < 12 := by rw [List.length_drop]; omega
    have v8 := val_bd (((bitsOf row).drop p).take 8)
    have v4 := val_bd ((((bitsOf row).drop p).drop 8).take 4)
    have l8 : (((bitsOf row).drop p).take 8).length = 8 := by rw [List.length_take]; omega
    have l4 : ((((bitsOf row).drop p).drop 8).take 4).length = 4 := by rw [List.length_take, List.length_drop]; omega
    rw [l8, show (2 : Int) ^ 8 = 256 from rfl] at v8
    rw [l4, show (2 : Int) ^ 4 = 16 from rfl] at v4
    walk_at "w"
    refine fo_eq (rtake_ok h.rd (m := 8) (by omega) (by omega)) ?_
    walk_at "w"
    refine fo_eq (rtake_ok hR.rd (m := 4) (by omega) (by omega)) ?_
    rw [← hd]
    generalize val (((bitsOf row).drop p).take 8) = d at *
    generalize val ((((bitsOf row).drop p).drop 8).take 4) = l at *
    generalize (M.set k (oR j (p + 8))).set k (oR j (p + 8 + 4)) = M3 at *
    walk_at "w"
    rw [List.length_map]
    refine z_if (fun hc1 => ?_) (fun hc1 => ?_)
    · walk_at "w"
      show if _ then _ else _
      rw [if_pos (.inr (.inl (by omega)))]
    · walk_at "w"
      rw [List.length_map]
      refine z_if (fun hc2 => ?_) (fun hc2 => ?_)
      · walk_at "w"
        show if _ then _ else _
        rw [if_pos (.inr (.inr (by omega)))]
      · walk_at "w"
        refine w_forN (fun i s => ∃ (e3 : Option Ent) (M' : List Cn), s = ⟨[some (.fz (.cid u)), some (.fz (.int (d + 1))), some (.fz (.int (l + 1))), e3], M'⟩ ∧ UAt M' k j u m n row (p + 12) ls many (cp (d + 1).toNat i made)) ⟨none, M3, rfl, hR3⟩ ?_ ?_
        · rintro i y s hi ⟨e3, M', rfl, hU⟩
          obtain ⟨hi, rfl⟩ := rng_get hi
          have hoi := hU.ho
          have hmi := hU.hm
          have hcl := cp_len (d + 1).toNat i made
          have hsn := cp_snoc (d + 1).toNat i made
          generalize cp (d + 1).toNat i made = mk at *
          walk_at "w"
          rw [List.length_map]
          refine w_ixI (ns := mk) rfl (viewD_cid hmi) (viewL_cid hmi) (by omega) (by omega) ?_
          walk_at "w"
          refine w_app (l := mk.map D.int) (getC_cid hmi) (by rw [List.length_map]; show _ < 16777216; omega) ?_
          walk_at "w"
          refine ⟨_, _, rfl, ?_⟩
          rw [hsn, show mk.length - (d + 1).toNat = ((mk.length : Int) - (d + 1)).toNat by omega]
          have := hU.setM (mk ++ [mk.getD ((mk.length : Int) - (d + 1)).toNat 0])
          rw [List.map_append] at this
          exact this
        · rintro s ⟨e3, M', rfl, hU⟩
          rw [rng_len] at hU
          walk_at "w"
          show if _ then _ else _
          rw [if_neg (by omega)]
          exact ⟨rfl, hU⟩
/-- all tokens -/
theorem good_ok (h : UAt M k j u m n row p ls many []) (hL : Ln ls) (h33 : ls.length = 33) (hmy : many ≤ 255) : Fo (fun a M' => match unp ls many (many + 1) [] ((bitsOf row).drop p) with
    | none => a = .val (.bl false)
    | some (made', B') => if val (B'.take (B'.length % 8)) ≠ 0 then a = .val (.bl false) else a = .val (.bl true) ∧ UAt M' k j u m n row (8 * row.length - B'.length + B'.length % 8) ls many made') (m_Unpacker_is_good [.cid u] M) := by
  have hbl := bitsOf_len row
  walk_at "f0"; unfold b_Unpacker_is_good
  walk_at "w"
  refine w_while (fun f s => ∃ (made : List Int) (q : Nat) (e1 e2 : Option Ent) (M' : List Cn), s = ⟨[some (.fz (.cid u)), e1, e2], M'⟩ ∧ f = many - made.length ∧ made.length ≤ many ∧ q ≤ 8 * row.length ∧ UAt M' k j u m n row q ls many made ∧ unp ls many (many + 1) [] ((bitsOf row).drop p) = unp ls many (many - made.length + 1) made ((bitsOf row).drop q)) many ⟨[], p, none, none, M, rfl, rfl, Nat.zero_le _, h.rd.le, h, rfl⟩ ?_ ?_
  · rintro f s ⟨made, q, e1, e2, M', rfl, rfl, hml, hq, hU, hun⟩
    have ho := hU.ho
    have hmi := hU.hm
    have hrd := hU.rd.ho
    walk_at "w"
    rw [List.length_map]
    refine z_if (fun hc => ?_) (fun hc => ?_)
    · have hlt : made.length < many := by omega
      rw [show unp ls many (many - made.length + 1) made ((bitsOf row).drop q) = (match tkR ls many made.length ((bitsOf row).drop q) with | none => none | some (t, B') => unp ls many (many - made.length) (stp made t) B') from if_pos hlt] at hun
      walk_at "w"
      refine fo_use (next_sym_ok hU) ?_
      intro a M1 ha
      unfold tkR at hun
      cases e : nxS ls 15 0 0 ((bitsOf row).drop q) with
      | none =>
        rw [e] at ha hun
        have ha : a = .val .non := ha
        subst ha
        walk_at "w"
        show match unp ls many (many + 1) [] ((bitsOf row).drop p) with | none => _ | some (s, z) => _
        rw [hun]
      | some sz =>
        obtain ⟨s, z⟩ := sz
        rw [e] at ha hun
        obtain ⟨rfl, hU1, hz⟩ : a = .val (.int (s : Int)) ∧ UAt M1 k j u m n row (q + z) ls many made ∧ q + z ≤ 8 * row.length := ha
        obtain ⟨hs1, _, _, _⟩ := nxS_of hL e
        have ho1 := hU1.ho
        have hdz : ((bitsOf row).drop q).drop z = (bitsOf row).drop (q + z) := by rw [List.drop_drop]
        dsimp only at hun
        rw [hdz] at hun
        walk_at "w"
        refine z_if (fun hc2 => ?_) (fun hc2 => ?_)
        · rw [if_pos (show s = 32 by omega)] at hun
          walk_at "w"
          refine fo_use (take_back_ok hU1 (by omega) (by omega)) ?_
          intro a2 M2 ha2
          generalize hd8 : val (((bitsOf row).drop (q + z)).take 8) = d at *
          generalize hd4 : val ((((bitsOf row).drop (q + z)).drop 8).take 4) = l at *
          by_cases h12 : ((bitsOf row).drop (q + z)).length < 12
          · rw [if_pos h12] at hun
            rw [if_pos (.inl h12)] at ha2
            subst ha2
            walk_at "w"
            show match unp ls many (many + 1) [] ((bitsOf row).drop p) with | none => _ | some (s, z) => _
            rw [hun]
          · rw [if_neg h12] at hun
            by_cases hdl : (made.length : Int) < d + 1 ∨ (many : Int) - made.length < l + 1
            · rw [if_pos hdl] at hun
              rw [if_pos (.inr hdl)] at ha2
              subst ha2
              walk_at "w"
              show match unp ls many (many + 1) [] ((bitsOf row).drop p) with | none => _ | some (s, z) => _
              rw [hun]
            · rw [if_neg hdl] at hun
              rw [if_neg (fun hh => hh.elim h12 hdl)] at ha2
              obtain ⟨rfl, hU2⟩ := ha2
              have v4 := val_bd ((((bitsOf row).drop (q + z)).drop 8).take 4)
              rw [hd4] at v4
              have hcl := cp_len (d + 1).toNat (l + 1).toNat made
              have hun : unp ls many (many + 1) [] ((bitsOf row).drop p) = unp ls many (many - made.length) (cp (d + 1).toNat (l + 1).toNat made) (((bitsOf row).drop (q + z)).drop 12) := hun
              rw [List.drop_drop] at hun
              walk_at "w"
              refine ⟨many - (cp (d + 1).toNat (l + 1).toNat made).length, by omega, _, q + z + 12, _, _, M2, rfl, rfl, by omega, ?_, hU2, ?_⟩
              · rw [List.length_drop] at h12; omega
              · rw [hun]
                refine unp_fuel ?_ ?_ <;> omega
        · rw [if_neg (show ¬ s = 32 by omega)] at hun
          walk_at "w"
          refine fo_use (take_byte_ok hU1 (s := s) (by omega) (by omega)) ?_
          intro a2 M2 ha2
          by_cases h3 : ((bitsOf row).drop (q + z)).length < 3
          · rw [if_pos h3] at hun ha2
            subst ha2
            walk_at "w"
            show match unp ls many (many + 1) [] ((bitsOf row).drop p) with | none => _ | some (s, z) => _
            rw [hun]
          · rw [if_neg h3] at hun ha2
            obtain ⟨rfl, hU2⟩ := ha2
            have hun : unp ls many (many + 1) [] ((bitsOf row).drop p) = unp ls many (many - made.length) (made ++ [8 * (s : Int) + val (((bitsOf row).drop (q + z)).take 3)]) (((bitsOf row).drop (q + z)).drop 3) := hun
            rw [List.drop_drop] at hun
            walk_at "w"
            have hml2 : (made ++ [8 * (s : Int) + val (((bitsOf row).drop (q + z)).take 3)]).length = made.length + 1 := by rw [List.length_append]; rfl
            refine ⟨many - (made ++ [8 * (s : Int) + val (((bitsOf row).drop (q + z)).take 3)]).length, by omega, _, q + z + 3, _, _, M2, rfl, rfl, by omega, ?_, hU2, ?_⟩
            · rw [List.length_drop] at h3; omega
            · rw [hun]
              refine unp_fuel ?_ ?_ <;> omega
    · have hge : ¬ made.length < many := by omega
      rw [show unp ls many (many - made.length + 1) made ((bitsOf row).drop q) = some (made, (bitsOf row).drop q) from if_neg hge] at hun
      walk_at "w"
      refine fo_eq (rended_ok hU.rd) ?_
      walk_at "w"
      show match unp ls many (many + 1) [] ((bitsOf row).drop p) with | none => _ | some (s, z) => _
      rw [hun]
      have hBl : ((bitsOf row).drop q).length = 8 * row.length - q := by rw [List.length_drop, hbl]
      have hpd : ((bitsOf row).drop q).length % 8 = padd q := by rw [hBl]; unfold padd; omega
      show if _ then _ else _
      rw [hpd]
      by_cases hz : val (((bitsOf row).drop q).take (padd q)) = 0
      · rw [if_neg (fun hh => hh hz), decide_eq_true hz]
        refine ⟨rfl, ?_⟩
        rw [hBl, show 8 * row.length - (8 * row.length - q) + padd q = q + padd q by omega]
        exact hU.setR (by unfold padd; omega)
      · rw [if_pos hz, decide_eq_false hz]
  · intro r hr e; subst e; exact hr
end
/-- a list that is told lies in a cell -/
def TD (M : List Cn) (d : D) (told : List Int) : Prop := ∃ m, d = .cid m ∧ M[m]? = some (.lst (told.map D.int))
theorem td_cell {M : List Cn} {m : Nat} {told : List Int} (h : M[m]? = some (.lst (told.map D.int))) : TD M (.cid m) told := ⟨m, rfl, h⟩
theorem td_rsv {M : List Cn} {d : D} {told : List Int} (h : TD M d told) : rsv 8 M d = some (.lst (told.map D.int)) := by
  obtain ⟨m, rfl, hm⟩ := h
  exact rsv_cints (f := 6) hm
theorem any_pos (ls : List Int) : (ls.map fun l => decide (0 < l)).any id = ls.any fun l => decide (0 < l) := by
  rw [List.any_map]; rfl
theorem table_at_ok {M : List Cn} {k j : Nat} {row : List Int} {p : Nat} (h : RAt M k j row p) (hp : p + 136 ≤ 8 * row.length) : Fo (fun a M' => if val ((((bitsOf row).drop p).drop 132).take 4) ≠ 0 ∨ 32768 < rmL (lsOf ((bitsOf row).drop p)) ∨ (((lsOf ((bitsOf row).drop p)).take 32).any fun l => decide (0 < l)) = false then a = .val .non else a = .val (.lst ((lsOf ((bitsOf row).drop p)).map D.int)) ∧ M' = M.set k (oR j (p + 136))) (m_table_at [.cid k] M) := by
  have hbl := bitsOf_len row
  have hBl : ((bitsOf row).drop p).length = 8 * row.length - p := by rw [List.length_drop, hbl]
  walk_at "f0"; unfold b_table_at
  walk_at "w"
  refine w_lcInv (fun i acc s => s = ⟨[some (.fz (.cid k)), none, none, none], M.set k (oR j (p + 4 * i))⟩ ∧ acc = ((List.range i).map fun i => val ((((bitsOf row).drop p).drop (4 * i)).take 4)).map D.int) ⟨by show Stt.mk _ _ = _; rw [Nat.mul_zero, Nat.add_zero, set_same h.ho]; rfl, rfl⟩ (by rw [rng_len]; show 33 ≤ 16777216; decide) ?_ ?_
  · rintro i x acc s hi ⟨rfl, rfl⟩
    obtain ⟨hi, rfl⟩ := rng_get hi
    have hR := h.set (q := p + 4 * i) (by omega)
    have ho := hR.ho
    walk_at "w"
    refine fo_eq (rtake_ok hR (m := 4) (by omega) (by omega)) ?_
    walk_at "w"
    refine ⟨by show Stt.mk _ _ = _; rw [List.set_set]; rfl, ?_⟩
    have hdd : ((bitsOf row).drop p).drop (4 * i) = (bitsOf row).drop (p + 4 * i) := by rw [List.drop_drop]
    rw [List.range_succ, List.map_append, List.map_append, ← hdd]
    rfl
  · rintro l s' ⟨rfl, rfl⟩
    rw [rng_len, show ((List.range (33 : Int).toNat).map fun i => val ((((bitsOf row).drop p).drop (4 * i)).take 4)) = lsOf ((bitsOf row).drop p) from rfl]
    have hR := h.set (q := p + 132) (by omega)
    have ho := hR.ho
    have hd : ((bitsOf row).drop p).drop 132 = (bitsOf row).drop (p + 132) := by rw [List.drop_drop]
    have hln := lsOf_len ((bitsOf row).drop p)
    have hbd : ∀ l ∈ lsOf ((bitsOf row).drop p), 0 ≤ l ∧ l ≤ 15 := fun l hl => by
      unfold lsOf at hl
      obtain ⟨i, hi, rfl⟩ := List.mem_map.mp hl
      rw [List.mem_range] at hi
      have hv := val_bd ((((bitsOf row).drop p).drop (4 * i)).take 4)
      have hl4 : ((((bitsOf row).drop p).drop (4 * i)).take 4).length = 4 := by rw [List.length_take, List.length_drop]; omega
      rw [hl4, show (2 : Int) ^ 4 = 16 from rfl] at hv
      omega
    generalize hls : lsOf ((bitsOf row).drop p) = ls at *
    rw [show p + 4 * (33 : Int).toNat = p + 132 from rfl]
    walk_at "ds"
    walk_at "w"
    refine fo_eq (rtake_ok hR (m := 4) (by omega) (by omega)) ?_
    rw [← hd]
    walk_at "w"
    by_cases h0 : val ((((bitsOf row).drop p).drop 132).take 4) = 0
    · rw [decide_eq_true h0]
      walk_at "w"
      refine fo_eq (fits_ok hbd (by omega) _) ?_
      walk_at "w"
      by_cases h1 : rmL ls ≤ 32768
      · rw [decide_eq_true h1]
        walk_at "w"
        rw [cutL_to _ (by decide), ← List.map_take]
        refine w_lcMap (fun d => match d with | .int l => .bl (decide (0 < l)) | d => d) ?_ ?_ ?_
        · rw [List.length_map, List.length_take]; show _ ≤ 16777216; omega
        · intro x hx
          obtain ⟨l, hl, rfl⟩ := List.mem_map.mp hx
          walk_at "w"
          exact ⟨rfl, rfl⟩
        rw [List.map_map, show ((fun d => match d with | D.int l => D.bl (decide (0 < l)) | d => d) ∘ D.int) = D.bl ∘ (fun l : Int => decide (0 < l)) from rfl, ← List.map_map]
        walk_at "ds"
        walk_at "w"
        refine w_bls rfl (blsD_map _) ?_
        rw [any_pos, show (32 : Int).toNat = 32 from rfl]
        walk_at "w"
        cases h2 : (ls.take 32).any fun l => decide (0 < l) with
        | true =>
          walk_at "w"
          show if _ then _ else _
          rw [if_neg (fun hh => by rcases hh with hh | hh | hh; exact hh h0; omega; cases hh)]
          exact ⟨rfl, by show (M.set k _).set k _ = _; rw [List.set_set]⟩
        | false =>
          walk_at "w"
          show if _ then _ else _
          rw [if_pos (.inr (.inr rfl))]
      · rw [decide_eq_false h1]
        walk_at "w"
        show if _ then _ else _
        rw [if_pos (.inr (.inl (by omega)))]
    · rw [decide_eq_false h0]
      walk_at "w"
      show if _ then _ else _
      rw [if_pos (.inl h0)]
theorem packed_at_ok {row : List Int} (hb : ∀ b ∈ row, 0 ≤ b ∧ b ≤ 255) (hrl : row.length ≤ 90000) {q many : Nat} (hm : many ≤ 255) (M : List Cn) : Fo (fun a M' => match pkAt (row.drop q) many with
    | none => a = .val .non
    | some (told, z) => ∃ m, a = .val (.tup [.cid m, .int ((q + z : Nat) : Int)]) ∧ M'[m]? = some (.lst (told.map D.int))) (m_packed_at [.lst (row.map D.int), .int (q : Int), .int (many : Int)] M) := by
  have hbits : bitsOf (row.drop q) = (bitsOf row).drop (8 * q) := bitsOf_drop row q
  walk_at "f0"; unfold b_packed_at
  walk_at "w"
  refine z_if (fun hc => ?_) (fun hc => ?_)
  · walk_at "w"
    show match pkAt (row.drop q) many with | none => _ | some (told, z) => _
    rw [show pkAt (row.drop q) many = none from if_pos (.inl (by omega))]
  · walk_at "w"
    rw [List.length_map]
    refine z_if (fun hc2 => ?_) (fun hc2 => ?_)
    · walk_at "w"
      show match pkAt (row.drop q) many with | none => _ | some (told, z) => _
      rw [show pkAt (row.drop q) many = none from if_pos (.inr (by rw [List.length_drop]; omega))]
    · have hpk : pkAt (row.drop q) many = (if val (((bitsOf (row.drop q)).drop 132).take 4) ≠ 0 ∨ 32768 < rmL (lsOf (bitsOf (row.drop q))) ∨ (((lsOf (bitsOf (row.drop q))).take 32).any fun l => decide (0 < l)) = false then none else
          match unp (lsOf (bitsOf (row.drop q))) many (many + 1) [] ((bitsOf (row.drop q)).drop 136) with
          | none => none
          | some (made, B') => if val (B'.take (B'.length % 8)) ≠ 0 then none else some (made, (row.drop q).length - B'.length / 8)) := if_neg (by rw [List.length_drop]; omega)
      rw [hbits] at hpk
      walk_at "w"
      refine fo_eq (rinit_ok (bs := row) (q := q) (by omega) (by omega)) ?_
      refine ⟨rfl, ?_⟩
      have hR : RAt (M ++ [oR (M.length + 1) (8 * q), Cn.lst (row.map D.int)]) M.length (M.length + 1) row (8 * q) := ⟨app_at M _ _, app_at1 M _ _ _, by omega, hb, by omega, by omega⟩
      walk_at "w"
      refine fo_use (table_at_ok hR (by omega)) ?_
      intro a M1 ha
      by_cases hbad : val ((((bitsOf row).drop (8 * q)).drop 132).take 4) ≠ 0 ∨ 32768 < rmL (lsOf ((bitsOf row).drop (8 * q))) ∨ (((lsOf ((bitsOf row).drop (8 * q))).take 32).any fun l => decide (0 < l)) = false
      · rw [if_pos hbad] at ha hpk
        subst ha
        walk_at "w"
        show match pkAt (row.drop q) many with | none => _ | some (told, z) => _
        rw [hpk]
      · rw [if_neg hbad] at ha hpk
        obtain ⟨rfl, rfl⟩ := ha
        rw [app_set]
        have hln := lsOf_len ((bitsOf row).drop (8 * q))
        have hbl := bitsOf_len row
        have hLn : Ln (lsOf ((bitsOf row).drop (8 * q))) := ⟨fun l hl => by
          unfold lsOf at hl
          obtain ⟨i, hi, rfl⟩ := List.mem_map.mp hl
          rw [List.mem_range] at hi
          have hv := val_bd ((((bitsOf row).drop (8 * q)).drop (4 * i)).take 4)
          have hl4 : ((((bitsOf row).drop (8 * q)).drop (4 * i)).take 4).length = 4 := by rw [List.length_take, List.length_drop, List.length_drop]; omega
          rw [hl4, show (2 : Int) ^ 4 = 16 from rfl] at hv
          omega, by omega⟩
        generalize lsOf ((bitsOf row).drop (8 * q)) = ls at *
        walk_at "w"
        refine fo_eq (words_ok (by omega) (by omega) hLn _) ?_
        walk_at "w"
        have hu := uinit_ok (M := M ++ [oR (M.length + 1) (8 * q + 136), Cn.lst (row.map D.int)]) (k := M.length) (many := many) hLn hln
        refine fo_eq hu ?_
        refine ⟨rfl, ?_⟩
        have e5 : (M ++ [oR (M.length + 1) (8 * q + 136), Cn.lst (row.map D.int)]).length = M.length + 2 := by simp
        rw [e5, List.append_assoc]
        show Ws _ _ (mSeq _ _ ⟨_, M ++ [oR (M.length + 1) (8 * q + 136), Cn.lst (row.map D.int), oU M.length many (M.length + 2 + 1) (M.length + 2 + 2), .lst [], .dT (knL ls ls.length)]⟩)
        have gt : ∀ i c, ([oR (M.length + 1) (8 * q + 136), Cn.lst (row.map D.int), oU M.length many (M.length + 2 + 1) (M.length + 2 + 2), .lst [], .dT (knL ls ls.length)])[i]? = some c → (M ++ [oR (M.length + 1) (8 * q + 136), Cn.lst (row.map D.int), oU M.length many (M.length + 2 + 1) (M.length + 2 + 2), .lst [], .dT (knL ls ls.length)])[M.length + i]? = some c := fun i c hc => by
          rw [List.getElem?_append_right (by omega), show M.length + i - M.length = i by omega]; exact hc
        have hU : UAt (M ++ [oR (M.length + 1) (8 * q + 136), Cn.lst (row.map D.int), oU M.length many (M.length + 2 + 1) (M.length + 2 + 2), .lst [], .dT (knL ls ls.length)]) M.length (M.length + 1) (M.length + 2) (M.length + 3) (M.length + 4) row (8 * q + 136) ls many [] :=
          ⟨⟨gt 0 _ rfl, gt 1 _ rfl, by omega, hb, by omega, by omega⟩, gt 2 _ rfl, gt 3 _ rfl, gt 4 _ rfl, by omega, by omega, by omega, by omega, by omega, by omega⟩
        generalize M ++ [oR (M.length + 1) (8 * q + 136), Cn.lst (row.map D.int), oU M.length many (M.length + 2 + 1) (M.length + 2 + 2), .lst [], .dT (knL ls ls.length)] = M5 at *
        have ho := hU.ho
        walk_at "w"
        refine fo_use (good_ok hU hLn hln hm) ?_
        intro a2 M2 ha2
        rw [List.drop_drop] at hpk
        cases e : unp ls many (many + 1) [] ((bitsOf row).drop (8 * q + 136)) with
        | none =>
          rw [e] at ha2 hpk
          have ha2 : a2 = .val (.bl false) := ha2
          subst ha2
          walk_at "w"
          show match pkAt (row.drop q) many with | none => _ | some (told, z) => _
          rw [hpk]
        | some mb =>
          obtain ⟨made, B'⟩ := mb
          rw [e] at ha2 hpk
          dsimp only at ha2 hpk
          by_cases hz : val (B'.take (B'.length % 8)) ≠ 0
          · rw [if_pos hz] at ha2 hpk
            subst ha2
            walk_at "w"
            show match pkAt (row.drop q) many with | none => _ | some (told, z) => _
            rw [hpk]
          · rw [if_neg hz] at ha2 hpk
            obtain ⟨rfl, hU2⟩ := ha2
            have ho2 := hU2.ho
            have hrd2 := hU2.rd.ho
            obtain ⟨ts, _, _, _, hBB, _⟩ := unp_of hLn hln hm _ [] _ (by simp) e
            have hBl := congrArg List.length hBB
            rw [List.length_append, List.length_drop, hbl] at hBl
            walk_at "w"
            refine fo_eq (place_ok hU2.rd) ?_
            walk_at "w"
            show match pkAt (row.drop q) many with | none => _ | some (told, z) => _
            rw [hpk]
            refine ⟨M.length + 3, ?_, hU2.hm⟩
            rw [List.length_drop]
            have : (((8 * row.length - B'.length + B'.length % 8 : Nat) : Int) + 7) / 8 = ((q + (row.length - q - B'.length / 8) : Nat) : Int) := by omega
            rw [this]
theorem body_at_ok {row : List Int} (hb : ∀ b ∈ row, 0 ≤ b ∧ b ≤ 255) (hrl : row.length ≤ 90000) {q many : Nat} {kind : Int} (hq : q ≤ row.length) (hm : many ≤ 255) (M : List Cn) : Fo (fun a M' => match bdAt kind (row.drop q) (many : Int) with
    | none => a = .val .non
    | some (told, z) => ∃ d, a = .val (.tup [d, .int ((q + z : Nat) : Int)]) ∧ TD M' d told) (m_body_at [.lst (row.map D.int), .int (q : Int), .int kind, .int (many : Int)] M) := by
  walk_at "f0"; unfold b_body_at
  walk_at "w"
  refine z_if (fun hc => ?_) (fun hc => ?_)
  · walk_at "w"
    refine fo_use (packed_at_ok hb hrl (q := q) hm M) ?_
    intro a M1 ha
    have e : bdAt kind (row.drop q) (many : Int) = pkAt (row.drop q) many := by unfold bdAt; rw [if_pos hc, Int.toNat_natCast]
    have tgt : match bdAt kind (row.drop q) (many : Int) with
      | none => a = .val .non
      | some (told, z) => ∃ d, a = .val (.tup [d, .int ((q + z : Nat) : Int)]) ∧ TD M1 d told := by
      rw [e]
      cases e2 : pkAt (row.drop q) many with
      | none => rw [e2] at ha; exact ha
      | some tz =>
        obtain ⟨told, z⟩ := tz
        rw [e2] at ha
        obtain ⟨m, h1, h2⟩ := ha
        exact ⟨_, h1, td_cell h2⟩
    have hv : ∃ d, a = .val d := by
      cases e2 : pkAt (row.drop q) many with
      | none => rw [e2] at ha; exact ⟨_, ha⟩
      | some tz =>
        obtain ⟨told, z⟩ := tz
        rw [e2] at ha
        obtain ⟨m, h1, h2⟩ := ha
        exact ⟨_, h1⟩
    obtain ⟨d, rfl⟩ := hv
    walk_at "w"
    exact tgt
  · walk_at "w"
    by_cases hc1 : kind = 0
    · rw [decide_eq_true hc1]
      walk_at "w"
      rw [List.length_map]
      refine z_if (fun hc2 => ?_) (fun hc2 => ?_)
      · walk_at "w"
        show match bdAt kind (row.drop q) (many : Int) with | none => _ | some (told, z) => _
        rw [show bdAt kind (row.drop q) (many : Int) = none from by unfold bdAt; rw [if_neg hc, if_pos (.inr (by rw [List.length_drop]; omega))]]
      · walk_at "w"
        rw [cutL_part _ (by omega) (by omega), Int.toNat_natCast, show ((q : Int) + (many : Int)).toNat - q = many by omega, ← List.map_drop, ← List.map_take]
        walk_at "w"
        show match bdAt kind (row.drop q) (many : Int) with | none => _ | some (told, z) => _
        rw [show bdAt kind (row.drop q) (many : Int) = some ((row.drop q).take many, many) from by unfold bdAt; rw [if_neg hc, if_neg (by rw [List.length_drop]; omega), Int.toNat_natCast]]
        first
          | exact ⟨_, by rw [show (q : Int) + (many : Int) = ((q + many : Nat) : Int) by omega], td_lst⟩
          | exact ⟨_, by rw [show (q : Int) + (many : Int) = ((q + many : Nat) : Int) by omega], td_cell (app_at _ _ _)⟩
    · rw [decide_eq_false hc1]
      walk_at "w"
      show match bdAt kind (row.drop q) (many : Int) with | none => _ | some (told, z) => _
      rw [show bdAt kind (row.drop q) (many : Int) = none from by unfold bdAt; rw [if_neg hc, if_pos (.inl hc1)]]
theorem cons6 {R : List Int} (h : 6 ≤ R.length) : ∃ a b k x n m Y, R = a :: b :: k :: x :: n :: m :: Y := by
  match R, h with
  | a :: b :: k :: x :: n :: m :: Y, _ => exact ⟨a, b, k, x, n, m, Y, rfl⟩
theorem pc_short {R : List Int} (h : R.length < 6) : pcAt R = none := by
  unfold pcAt
  split
  · exfalso; simp only [List.length_cons] at h; omega
  · rfl
/-- what piece_at tells -/
def pcD (q : Nat) : Option (Int × Int × Int × List Int × Nat) → D
  | none => .non
  | some (k, x, n, told, z) => .tup [.int k, .int x, .int n, .lst (told.map D.int), .int ((q + z : Nat) : Int)]
theorem piece_at_fo {row : List Int} (hb : ∀ b ∈ row, 0 ≤ b ∧ b ≤ 255) (hrl : row.length ≤ 90000) {q : Nat} (hq : q ≤ 100000) (M : List Cn) : Fo (fun a M' => match pcAt (row.drop q) with
    | none => a = .val .non
    | some (k, x, n, told, z) => ∃ d, a = .val (.tup [.int k, .int x, .int n, d, .int ((q + z : Nat) : Int)]) ∧ TD M' d told) (m_piece_at [.lst (row.map D.int), .int (q : Int)] M) := by
  walk_at "f0"; unfold b_piece_at
  walk_at "w"
  rw [cutL_part _ (by omega) (by omega), Int.toNat_natCast, show ((q : Int) + 6).toNat - q = 6 by omega, ← List.map_drop, ← List.map_take]
  have hbd : ∀ b ∈ row.drop q, 0 ≤ b ∧ b ≤ 255 := fun b h => hb b (List.mem_of_mem_drop h)
  have hlen : (row.drop q).length = row.length - q := List.length_drop
  by_cases h6 : 6 ≤ (row.drop q).length
  · obtain ⟨a, b, k, x, n, m, Y, e⟩ := cons6 h6
    have hrow6 : row.drop (q + 6) = Y := by rw [← List.drop_drop, e]; rfl
    have hrow2 : row.drop (q + 2) = k :: x :: n :: m :: Y := by rw [← List.drop_drop, e]; rfl
    have hk := hbd k (by rw [e]; simp)
    have hx := hbd x (by rw [e]; simp)
    have hn := hbd n (by rw [e]; simp)
    have hm := hbd m (by rw [e]; simp)
    have hYb : ∀ y ∈ Y, 0 ≤ y ∧ y ≤ 255 := fun y hy => hbd y (by rw [e]; simp [hy])
    have hYl : row.length - q = Y.length + 6 := by rw [← hlen, e]; rfl
    have hpc : pcAt (row.drop q) = (if a ≠ 165 ∨ b ≠ 90 ∨ 254 < x ∨ 254 < n then none else
      match bdAt k Y m with
      | none => none
      | some (told, z) => if (Y.drop z).take 2 ≠ crcB ([k, x, n, m] ++ Y.take z) then none else some (k, x, n, told, z + 8)) := by rw [e]; rfl
    generalize hV : pcAt (row.drop q) = V at hpc ⊢
    rw [e]
    rw [show (a :: b :: k :: x :: n :: m :: Y).take 6 = [a, b, k, x, n, m] from rfl]
    walk_at "w"
    refine z_ifN (by show ¬ (6 : Int) < 6; decide) ?_
    walk_at "w"
    rw [cutL_to _ (by decide), ← List.map_take, show ([a, b, k, x, n, m] : List Int).take (2 : Int).toNat = [a, b] from rfl]
    refine w_ne (_root_.Y.eqOf_ints (ns := [a, b]) (ms := [165, 90]) rfl rfl (.inl rfl) (.inr rfl)) ?_
    walk_at "w"
    by_cases hab : ([a, b] : List Int) = [165, 90]
    · obtain ⟨rfl, rfl⟩ : a = 165 ∧ b = 90 := by injection hab with h1 h2; injection h2 with h2 _; exact ⟨h1, h2⟩
      walk_at "w"
      refine w_ixI (ns := [165, 90, k, x, n, m]) rfl rfl rfl (by decide) (by show (3 : Int) < 6; decide) ?_
      rw [show ([165, 90, k, x, n, m] : List Int).getD (3 : Int).toNat 0 = x from rfl]
      walk_at "w"
      by_cases hx2 : 254 < x
      · rw [decide_eq_true hx2]
        walk_at "w"
        rw [if_pos (.inr (.inr (.inl hx2)))] at hpc
        subst hpc
        exact rfl
      · rw [decide_eq_false hx2]
        walk_at "w"
        refine w_ixI (ns := [165, 90, k, x, n, m]) rfl rfl rfl (by decide) (by show (4 : Int) < 6; decide) ?_
        rw [show ([165, 90, k, x, n, m] : List Int).getD (4 : Int).toNat 0 = n from rfl]
        walk_at "w"
        by_cases hn2 : 254 < n
        · rw [decide_eq_true hn2]
          walk_at "w"
          rw [if_pos (.inr (.inr (.inr hn2)))] at hpc
          subst hpc
          exact rfl
        · rw [decide_eq_false hn2]
          rw [if_neg (by omega)] at hpc
          walk_at "w"
          refine w_ixI (ns := [165, 90, k, x, n, m]) rfl rfl rfl (by decide) (by show (2 : Int) < 6; decide) ?_
          rw [show ([165, 90, k, x, n, m] : List Int).getD (2 : Int).toNat 0 = k from rfl]
          walk_at "w"
          refine w_ixI (ns := [165, 90, k, x, n, m]) rfl rfl rfl (by decide) (by show (5 : Int) < 6; decide) ?_
          rw [show ([165, 90, k, x, n, m] : List Int).getD (5 : Int).toNat 0 = m from rfl]
          walk_at "w"
          obtain ⟨m', rfl⟩ : ∃ m' : Nat, m = (m' : Int) := ⟨m.toNat, by omega⟩
          have hbody := body_at_ok hb hrl (q := q + 6) (kind := k) (many := m') (by omega) (by omega) M
          rw [hrow6, show (((q + 6 : Nat) : Nat) : Int) = (q : Int) + 6 by omega] at hbody
          refine fo_use hbody ?_
          intro a1 M1 ha1
          cases e2 : bdAt k Y (m' : Int) with
          | none =>
            rw [e2] at ha1 hpc
            have ha1 : a1 = .val .non := ha1
            subst ha1
            have hpc : V = none := hpc
            subst hpc
            walk_at "w"
            exact rfl
          | some tz =>
            obtain ⟨told, z⟩ := tz
            rw [e2] at ha1 hpc
            dsimp only at hpc
            obtain ⟨d, rfl, hTD⟩ := ha1
            obtain ⟨hz, hmt, hBd⟩ := bd_of hYb hm.1 hm.2 e2
            have htk1 : ((row.drop (q + 6 + z)).take 2) = (Y.drop z).take 2 := by rw [← List.drop_drop, hrow6]
            have htk2 : ((row.drop (q + 2)).take (q + 6 + z - (q + 2))) = [k, x, n, (m' : Int)] ++ Y.take z := by
              rw [hrow2, show q + 6 + z - (q + 2) = z + 4 by omega]; rfl
            have hbt : Z.Byt ([k, x, n, (m' : Int)] ++ Y.take z) := fun y hy => by
              rcases List.mem_append.mp hy with hy | hy
              · simp at hy; rcases hy with rfl | rfl | rfl | rfl <;> omega
              · have := hYb y (List.mem_of_mem_take hy); omega
            have dn : D.isN (.tup [d, .int ((q + 6 + z : Nat) : Int)]) = false := rfl
            walk_at "w"
            rw [cutL_part _ (by omega) (by omega), Int.toNat_natCast, show (((q + 6 + z : Nat) : Int) + 2).toNat - (q + 6 + z) = 2 by omega, ← List.map_drop, ← List.map_take, htk1]
            walk_at "w"
            rw [cutL_part _ (by omega) (by omega), Int.toNat_natCast, show ((q : Int) + 2).toNat = q + 2 by omega, ← List.map_drop, ← List.map_take, htk2]
            walk_at "w"
            refine fo_eq (crc_row_ok hbt _) ?_
            walk_at "w"
            refine w_ne (_root_.Y.eqOf_ints (ns := (Y.drop z).take 2) (ms := crcB ([k, x, n, (m' : Int)] ++ Y.take z)) rfl rfl (.inl rfl) (.inl rfl)) ?_
            walk_at "w"
            by_cases hcr : (Y.drop z).take 2 = crcB ([k, x, n, (m' : Int)] ++ Y.take z)
            · rw [if_neg (fun hh => hh hcr)] at hpc
              rw [decide_eq_true hcr]
              subst hpc
              walk_at "w"
              refine w_ixI (ns := [165, 90, k, x, n, (m' : Int)]) rfl rfl rfl (by decide) (by show (2 : Int) < 6; decide) ?_
              rw [show ([165, 90, k, x, n, (m' : Int)] : List Int).getD (2 : Int).toNat 0 = k from rfl]
              walk_at "w"
              refine w_ixI (ns := [165, 90, k, x, n, (m' : Int)]) rfl rfl rfl (by decide) (by show (3 : Int) < 6; decide) ?_
              rw [show ([165, 90, k, x, n, (m' : Int)] : List Int).getD (3 : Int).toNat 0 = x from rfl]
              walk_at "w"
              refine w_ixI (ns := [165, 90, k, x, n, (m' : Int)]) rfl rfl rfl (by decide) (by show (4 : Int) < 6; decide) ?_
              rw [show ([165, 90, k, x, n, (m' : Int)] : List Int).getD (4 : Int).toNat 0 = n from rfl]
              walk_at "w"
              exact ⟨d, by rw [show ((q + 6 + z : Nat) : Int) + 2 = ((q + (z + 8) : Nat) : Int) by omega], hTD⟩
            · rw [if_pos hcr] at hpc
              rw [decide_eq_false hcr]
              subst hpc
              walk_at "w"
              exact rfl
    · rw [decide_eq_false hab]
      walk_at "w"
      rw [if_pos (by
        by_cases ha : a = 165
        · refine .inr (.inl fun hb' => hab ?_)
          rw [ha, hb']
        · exact .inl ha)] at hpc
      subst hpc
      exact rfl
  · rw [pc_short (by omega)]
    walk_at "w"
    rw [List.length_map, List.length_take]
    walk_at "w"
    exact rfl
def ch (b : Bool) : Nat := if b then 49 else 48
def bS (B : List Bool) : Str := tx (B.map ch)
theorem bS_cat (A B : List Bool) : bS A ++ bS B = bS (A ++ B) := by unfold bS; rw [tx_cat, List.map_append]
theorem bS_len (B : List Bool) : (bS B).length = B.length := by unfold bS; rw [tx_len, List.length_map]
theorem str_bit (b : Bool) : (toString (b2i b) : Str) = bS [b] := by cases b <;> decide +kernel
theorem bit_low (x k : Nat) : Builtin.bitAnd ((x : Int) / 2 ^ ((k : Int)).toNat) 1 = b2i (x.testBit k) := by rw [Int.toNat_natCast]; exact bit_and
theorem bitsN_cons (x n : Nat) : bitsN x (n + 1) = x.testBit n :: bitsN x n := rfl
theorem w_addB {s : Stt} {QA : AI → Stt → Prop} {X : Exn → Stt → Prop} {A B : List Bool} (c : A.length + B.length ≤ sizeLine) (h : QA (.val (.str (bS (A ++ B)))) s) : Wo QA X (fAdd s (.val (.str (bS A))) (.val (.str (bS B)))) := by
  refine w_addS (by rw [bS_len, bS_len]; exact c) ?_
  rw [bS_cat]; exact h
theorem w_strI {s : Stt} {QA : AI → Stt → Prop} {X : Exn → Stt → Prop} {b : Bool} (h : QA (.val (.str (bS [b]))) s) : Wo QA X (fStr s [.val (.int (b2i b))]) := by
  unfold fStr
  simp only []
  rw [if_pos (by cases b <;> decide +kernel)]
  rw [str_bit]; exact h
theorem l_bits_ok {x m : Nat} (hm : m ≤ 1000) (M : List Cn) : m_l_bits [.int (x : Int), .int (m : Int)] M = .ok (.val (.str (bS (bitsN x m)))) M := by
  refine fo_ok (P := fun _ _ => True) ?_
  walk_at "f0"; unfold b_l_bits
  walk_at "w"
  refine w_forN (fun i s => ∃ e3 : Option Ent, s = ⟨[some (.fz (.int (x : Int))), some (.fz (.int (m : Int))), some (.fz (.str (bS (bitsN x i)))), e3], M⟩) ⟨_, rfl⟩ ?_ ?_
  · rintro i y s hi ⟨e3, rfl⟩
    obtain ⟨hi, rfl⟩ := rng_get hi
    have hi : i < m := by omega
    have hb := bit_low x i
    rw [bitsN_cons]
    walk_at "w"
    rw [show (0 + (i : Int)) = (i : Int) by omega, hb]
    refine w_strI ?_
    walk_at "w"
    refine w_addB (by rw [bitsN_len]; show 1 + _ ≤ 16777216; omega) ?_
    walk_at "w"
    exact ⟨_, rfl⟩
  · rintro s ⟨e3, rfl⟩
    rw [rng_len, Int.toNat_natCast]
    walk_at "w"
    exact ⟨rfl, rfl⟩
theorem rgc8 {n : Nat} (h : n ≤ 10000) : RgC 0 ((8 * n : Nat) : Int) 8 n := by
  refine ⟨by decide, by decide, ?_, ?_⟩
  · have f : ∀ x : Int, -1000000 ≤ x → x ≤ 1000000 → Builtin.Range.rangeFitsLong x = true := fun x h1 h2 => by unfold Builtin.Range.rangeFitsLong; simp; omega
    have hs : 0 ≤ Builtin.Range.rangeSize 0 ((8 * n : Nat) : Int) 8 ∧ Builtin.Range.rangeSize 0 ((8 * n : Nat) : Int) 8 ≤ 10000 := by unfold Builtin.Range.rangeSize; rw [if_pos (by decide)]; split <;> omega
    unfold Builtin.Range.small
    rw [f _ (by omega) (by omega), f _ (by omega) (by omega), f _ (by omega) (by omega), f _ (by omega) (by omega), if_pos (by decide), f _ (by omega) (by omega), Bool.or_true]; rfl
  · unfold Builtin.Range.rangeSize
    rw [if_pos (by decide)]
    split
    · omega
    · omega
theorem byL_app {A C : List Bool} (hA : A.length % 8 = 0) (hC : C.length = 8) : byL (A ++ C) = byL A ++ [val C] := by
  revert hA
  refine ind8 (P := fun A => A.length % 8 = 0 → byL (A ++ C) = byL A ++ [val C]) (fun B h hA => ?_) (fun a b c d e f g i r h hA => ?_) A
  · have : B = [] := List.length_eq_zero_iff.mp (by omega)
    subst this
    obtain ⟨a, b, c, d, e, f, g, i, r, rfl⟩ := cut8 (B := C) (by omega)
    have : r = [] := by simp at hC; exact hC
    subst this
    rfl
  · show val [a, b, c, d, e, f, g, i] :: byL (r ++ C) = val [a, b, c, d, e, f, g, i] :: byL r ++ [val C]
    rw [h (by simp at hA; omega)]; rfl
theorem mul0 : ∀ n < 8, Txt.mul (Str.ofString "0") (n : Nat) = bS (List.replicate n false) := by decide +kernel
theorem pad_i (n : Nat) : (0 - (n : Int)) % 8 = ((padd n : Nat) : Int) := by unfold padd; omega
theorem bS_cut (B : List Bool) (a b : Nat) : cutS (bS B) (some (a : Int)) (some (b : Int)) = bS ((B.drop a).take (b - a)) := by
  unfold bS
  rw [tx_cut, cutL_part _ (by omega) (by omega), Int.toNat_natCast, Int.toNat_natCast, List.map_take, List.map_drop]
theorem bS_strL (B : List Bool) : strL (bS B) = B.map fun b => .str (bS [b]) := by
  unfold bS
  rw [tx_strL, List.map_map]; rfl
theorem w_lenB {s : Stt} {QA : AI → Stt → Prop} {X : Exn → Stt → Prop} {B : List Bool} (c : B.length ≤ sizeLine) (h : QA (.val (.int (B.length : Nat))) s) : Wo QA X (fLen s [.val (.str (bS B))]) := by
  unfold bS
  refine w_lenT (by rw [List.length_map]; exact c) ?_
  rw [List.length_map]; exact h
theorem w_slB {s : Stt} {QA : AI → Stt → Prop} {X : Exn → Stt → Prop} {B : List Bool} {a b : Nat} (c : B.length ≤ sizeLine) (h : QA (.val (.str (bS ((B.drop a).take (b - a))))) s) : Wo QA X (fSl s (.val (.str (bS B))) (some (a : Int)) (some (b : Int))) := by
  refine w_slS (by rw [bS_len]; exact c) ?_
  rw [bS_cut]; exact h
theorem l_bytes_ok {B : List Bool} (hB : B.length ≤ 50000) (M : List Cn) : m_l_bytes [.str (bS B)] M = .ok (.new (.lst ((byL (padB B)).map D.int))) M := by
  refine fo_ok (P := fun _ _ => True) ?_
  walk_at "f0"; unfold b_l_bytes
  have hpd : padd B.length < 8 := by unfold padd; omega
  have hpl : (padB B).length = B.length + padd B.length := by show (B ++ _).length = _; rw [List.length_append, List.length_replicate]
  obtain ⟨n, hn⟩ : ∃ n, (padB B).length = 8 * n := ⟨(B.length + padd B.length) / 8, by rw [hpl]; unfold padd; omega⟩
  walk_at "w"
  refine w_lenB (by show _ ≤ 16777216; omega) ?_
  walk_at "w"
  rw [pad_i]
  refine w_mulS ⟨by decide +kernel, by omega, by omega⟩ ?_
  rw [mul0 _ hpd]
  refine w_addB (by rw [List.length_replicate]; show _ ≤ 16777216; omega) ?_
  rw [show B ++ List.replicate (padd B.length) false = padB B from rfl]
  generalize padB B = A at *
  walk_at "w"
  refine w_lenB (by show _ ≤ 16777216; omega) ?_
  walk_at "w"
  rw [hn]
  refine ⟨_, _, _, n, rfl, rgc8 (by omega), ?_⟩
  refine w_forN (fun i s => ∃ e2 e3 e4 : Option Ent, s = ⟨[some (.fz (.str (bS A))), some (.ow (.lst ((byL (A.take (8 * i))).map D.int))), e2, e3, e4], M⟩) ⟨_, _, _, rfl⟩ ?_ ?_
  · rintro i y s hi ⟨e2, e3, e4, rfl⟩
    obtain ⟨hi, rfl⟩ := rngC_get hi
    have hC : ((A.drop (8 * i)).take 8).length = 8 := by rw [List.length_take, List.length_drop]; omega
    have hT : (A.take (8 * i)).length = 8 * i := by rw [List.length_take]; omega
    have hnx : byL (A.take (8 * (i + 1))) = byL (A.take (8 * i)) ++ [val ((A.drop (8 * i)).take 8)] := by
      rw [show 8 * (i + 1) = 8 * i + 8 by omega, List.take_add, byL_app (by omega) hC]
    have hbl := (rsL_len (A.take (8 * i))).2
    rw [hnx]
    walk_at "w"
    rw [show (0 : Int) + (i : Int) * 8 = ((8 * i : Nat) : Int) by omega, show ((8 * i : Nat) : Int) + 8 = ((8 * i + 8 : Nat) : Int) by omega]
    refine w_slB (by show _ ≤ 16777216; omega) ?_
    rw [show 8 * i + 8 - 8 * i = 8 by omega]
    generalize (A.drop (8 * i)).take 8 = C at *
    walk_at "w"
    rw [bS_strL]
    refine w_forN (fun j s => ∃ e4 : Option Ent, s = ⟨[some (.fz (.str (bS A))), some (.ow (.lst ((byL (A.take (8 * i))).map D.int))), some (.fz (.int ((8 * i : Nat) : Int))), some (.fz (.int (val (C.take j)))), e4], M⟩) ⟨_, rfl⟩ ?_ ?_
    · rintro j y s hj ⟨e4, rfl⟩
      obtain ⟨b, hb, rfl⟩ := map_get hj
      have hv : val (C.take (j + 1)) = 2 * val (C.take j) + b2i b := by
        rw [List.take_add_one, hb]; exact val_snoc _ _
      rw [hv]
      have he : decide (bS [b] = Str.ofString "1") = b := by cases b <;> decide +kernel
      walk_at "w"
      refine w_eqS (by cases b <;> decide +kernel) (by decide +kernel) ?_
      rw [he]
      walk_at "w"
      exact ⟨_, rfl⟩
    · rintro s ⟨e4, rfl⟩
      rw [List.length_map, List.take_length]
      walk_at "w"
      refine w_app rfl (by rw [List.length_map]; show _ < 16777216; omega) ?_
      walk_at "ds"
      rw [List.map_append]
      exact ⟨_, _, _, rfl⟩
  · rintro s ⟨e2, e3, e4, rfl⟩
    rw [rngC_len, List.take_of_length_le (by omega)]
    walk_at "w"
    exact ⟨rfl, rfl⟩
structure Drw (M : List Cn) (k : Nat) : Prop where
  at_ : ∃ a b : Int, M[k]? = some (.lst [.int a, .int b])
/-- all but the draws stands as it stood -/
structure Kpt (M M' : List Cn) (k : Nat) : Prop where
  dr : Drw M' k
  len : M'.length = M.length
  oth : ∀ i, i ≠ k → M'[i]? = M[i]?
theorem Kpt.trans {M M' M'' : List Cn} {k : Nat} (h : Kpt M M' k) (h' : Kpt M' M'' k) : Kpt M M'' k := ⟨h'.dr, h'.len.trans h.len, fun i hi => (h'.oth i hi).trans (h.oth i hi)⟩
theorem Kpt.refl {M : List Cn} {k : Nat} (h : Drw M k) : Kpt M M k := ⟨h, rfl, fun _ _ => rfl⟩
theorem Drw.kept {M : List Cn} {k : Nat} (h : k < M.length) (a b : Int) : Kpt M (M.set k (.lst [.int a, .int b])) k := ⟨⟨a, b, List.getElem?_set_self h⟩, List.length_set, fun i hi => List.getElem?_set_ne (fun z => hi z.symm)⟩
theorem draw_ok (c : Int) (M : List Cn) : Fo (fun r M' => ∃ a b : Int, r = .new (.lst [.int a, .int b]) ∧ M' = M) (m_l_draw [.int c] M) := by
  walk_at "f0"; unfold b_l_draw
  walk_at "w"
  exact ⟨_, _, rfl, rfl⟩
theorem next_ok {M : List Cn} {k : Nat} (h : Drw M k) {z : Int} (hz : 0 < z) (hz2 : z < 1073741824) : Fo (fun r M' => ∃ x : Int, r = .val (.int x) ∧ 0 ≤ x ∧ x < z ∧ Kpt M M' k) (m_l_next [.cid k, .int z] M) := by
  obtain ⟨a, b, hM⟩ := h.at_
  have hk := (List.getElem?_eq_some_iff.mp hM).1
  walk_at "f0"; unfold b_l_next
  walk_at "w"
  refine w_ixL (l := [.int a, .int b]) (d := .int b) rfl (viewD_cid hM) (viewL_cid hM) rfl ?_
  walk_at "w"
  refine so_setLst (getC_cid hM) (j := 1) rfl ?_
  walk_at "ds"
  have hM1 : (M.set k (.lst [.int a, .int ((b * 48271 + 11) % 2147483647)]))[k]? = some (.lst [.int a, .int ((b * 48271 + 11) % 2147483647)]) := List.getElem?_set_self hk
  have hb0 : 0 ≤ (b * 48271 + 11) % 2147483647 ∧ (b * 48271 + 11) % 2147483647 < 2147483647 := by omega
  generalize (b * 48271 + 11) % 2147483647 = c at *
  walk_at "w"
  refine w_ixL (l := [.int a, .int c]) (d := .int a) rfl (viewD_cid hM1) (viewL_cid hM1) rfl ?_
  walk_at "w"
  refine z_if (fun ha => ?_) (fun ha => ?_)
  · walk_at "w"
    refine w_ixL (l := [.int a, .int c]) (d := .int a) rfl (viewD_cid hM1) (viewL_cid hM1) rfl ?_
    walk_at "w"
    refine w_ixL (l := [.int a, .int c]) (d := .int a) rfl (viewD_cid hM1) (viewL_cid hM1) rfl ?_
    walk_at "w"
    refine so_setLst (getC_cid hM1) (j := 0) rfl ?_
    walk_at "ds"
    rw [List.set_set]
    walk_at "w"
    exact ⟨_, rfl, Int.emod_nonneg _ (by omega), Int.emod_lt_of_pos _ hz, Drw.kept hk _ _⟩
  · walk_at "w"
    refine w_ixL (l := [.int a, .int c]) (d := .int c) rfl (viewD_cid hM1) (viewL_cid hM1) rfl ?_
    walk_at "w"
    refine w_ixL (l := [.int a, .int c]) (d := .int c) rfl (viewD_cid hM1) (viewL_cid hM1) rfl ?_
    walk_at "w"
    exact ⟨_, rfl, Int.emod_nonneg _ (by omega), Int.emod_lt_of_pos _ hz, Drw.kept hk _ _⟩
theorem sumQ_ins : ∀ {P : List Pt} {c d : Pt → Bool} {q : Pt}, P.Nodup → q ∈ P → 0 < q.1 → c q = false → d q = true → (∀ p ∈ P, p ≠ q → d p = c p) → sumQ P d = sumQ P c + tw q
  | p :: P, c, d, q, hn, hq, h0, hc, hd, h => by
    obtain ⟨hn1, hn2⟩ := List.nodup_cons.mp hn
    rw [sumQ_cons, sumQ_cons]
    by_cases e : p = q
    · subst e
      have : sumQ P d = sumQ P c := sumQ_congr fun x hx => h x (List.mem_cons_of_mem _ hx) (fun z => hn1 (z ▸ hx))
      rw [this, if_pos ⟨h0, hd⟩, if_neg (fun z => by rw [hc] at z; cases z.2)]
      omega
    · have hq : q ∈ P := (List.mem_cons.mp hq).resolve_left (fun z => e z.symm)
      have ih := sumQ_ins hn2 hq h0 hc hd fun x hx => h x (List.mem_cons_of_mem _ hx)
      rw [ih, h p List.mem_cons_self e]
      omega
/-- what the words ahead of (L, s) take -/
def wS (ls : List Int) (L s : Int) : Int := sumQ (enP ls) fun p => Y.ltP p (L, s)
theorem ltP_iff {p q : Pt} : Y.ltP p q = true ↔ p.1 < q.1 ∨ (p.1 = q.1 ∧ p.2 < q.2) := by unfold Y.ltP; exact ⟨of_decide_eq_true, decide_eq_true⟩
theorem wS_at {ls : List Int} {s : Nat} {L : Int} (h : ls.getD s 0 = L) : wS ls L (s : Int) = plc ls (s : Int) := by unfold wS plc; rw [Int.toNat_natCast, h]
theorem wS_first (ls : List Int) : wS ls 1 0 = 0 := by
  unfold wS sumQ
  have : ((enP ls).map fun p => if 0 < p.1 ∧ Y.ltP p (1, 0) = true then tw p else 0) = (enP ls).map fun _ => (0 : Int) := by
    refine List.map_congr_left fun p hp => if_neg fun z => ?_
    have h1 := enP_mem.mp hp
    have h2 := ltP_iff.mp z.2
    have h2 : p.1 < 1 ∨ (p.1 = 1 ∧ p.2 < 0) := h2
    omega
  rw [this]
  induction enP ls with
  | nil => rfl
  | cons a l ih => rw [List.map_cons, List.sum_cons, ih]; rfl
theorem wS_next {ls : List Int} {L : Int} {s : Nat} (hs : s < ls.length) (hL : 0 < L) : wS ls L ((s + 1 : Nat) : Int) = wS ls L (s : Int) + if ls.getD s 0 = L then (2 : Int) ^ (15 - L).toNat else 0 := by
  by_cases h : ls.getD s 0 = L
  · rw [if_pos h]
    refine sumQ_ins (P := enP ls) (q := (L, (s : Int))) (enP_nd ls) (enP_mem.mpr ⟨by show (0 : Int) ≤ (s : Int); omega, by show (s : Int) < _; omega, by show L = ls.getD (s : Int).toNat 0; rw [Int.toNat_natCast, h]⟩) hL ?_ ?_ ?_
    · cases q : Y.ltP (L, (s : Int)) (L, (s : Int)) with
      | false => rfl
      | true => have := ltP_iff.mp q; have this : L < L ∨ (L = L ∧ (s : Int) < (s : Int)) := this; omega
    · exact ltP_iff.mpr (show L < L ∨ (L = L ∧ (s : Int) < ((s + 1 : Nat) : Int)) from .inr ⟨rfl, by omega⟩)
    · intro p hp hne
      have e : Y.ltP p (L, ((s + 1 : Nat) : Int)) = true ↔ Y.ltP p (L, (s : Int)) = true := by
        rw [ltP_iff, ltP_iff]
        show (p.1 < L ∨ (p.1 = L ∧ p.2 < ((s + 1 : Nat) : Int))) ↔ (p.1 < L ∨ (p.1 = L ∧ p.2 < (s : Int)))
        constructor
        · rintro (z | ⟨z1, z2⟩)
          · exact .inl z
          · refine .inr ⟨z1, ?_⟩
            have : p.2 ≠ (s : Int) := fun y => hne (Prod.ext z1 y)
            omega
        · rintro (z | ⟨z1, z2⟩)
          · exact .inl z
          · exact .inr ⟨z1, by omega⟩
      exact Bool.eq_iff_iff.mpr e
  · rw [if_neg h, Int.add_zero]
    refine sumQ_congr fun p hp => Bool.eq_iff_iff.mpr ?_
    rw [ltP_iff, ltP_iff]
    show (p.1 < L ∨ (p.1 = L ∧ p.2 < ((s + 1 : Nat) : Int))) ↔ (p.1 < L ∨ (p.1 = L ∧ p.2 < (s : Int)))
    obtain ⟨q0, q1, q2⟩ := enP_mem.mp hp
    constructor
    · rintro (z | ⟨z1, z2⟩)
      · exact .inl z
      · refine .inr ⟨z1, ?_⟩
        have : p.2 ≠ (s : Int) := fun y => h (by rw [← z1, q2, y, Int.toNat_natCast])
        omega
    · rintro (z | ⟨z1, z2⟩)
      · exact .inl z
      · exact .inr ⟨z1, by omega⟩
theorem wS_turn {ls : List Int} {L : Int} {n : Nat} (hl : ls.length ≤ n) : wS ls (L + 1) 0 = wS ls L (n : Int) := by
  refine sumQ_congr fun p hp => Bool.eq_iff_iff.mpr ?_
  rw [ltP_iff, ltP_iff]
  show (p.1 < L + 1 ∨ (p.1 = L + 1 ∧ p.2 < 0)) ↔ (p.1 < L ∨ (p.1 = L ∧ p.2 < (n : Int)))
  obtain ⟨q0, q1, q2⟩ := enP_mem.mp hp
  omega
theorem puK_len (l : List (Key × D)) (k : Key) (d : D) : (pu l k d).length ≤ l.length + 1 := by
  unfold pu
  split
  · rw [List.length_map]; omega
  · rw [List.length_append]; exact Nat.le_refl _
def KeyL (ls : List Int) (l : List (Key × D)) : Prop := ∀ p ∈ l, ∃ (r : Nat) (w : List Bool), r < 33 ∧ 0 < ls.getD r 0 ∧ p.1 = .inl (r : Int) ∧ p.2 = .str (bS w) ∧ w.length = (ls.getD r 0).toNat ∧ (Ln ls → w = wdB ls r)
theorem KeyL.put {ls : List Int} {l : List (Key × D)} (h : KeyL ls l) {k : Nat} (hk : k < 33) (hp : 0 < ls.getD k 0) {w : List Bool} (hw : w.length = (ls.getD k 0).toNat) (hw2 : Ln ls → w = wdB ls k) : KeyL ls (pu l (.inl (k : Int)) (.str (bS w))) := fun p hm => by
  unfold pu at hm
  split at hm
  · obtain ⟨q, hq, rfl⟩ := List.mem_map.mp hm
    split
    · rename_i e
      exact ⟨k, w, hk, hp, e, rfl, hw, hw2⟩
    · exact h q hq
  · rcases List.mem_append.mp hm with hm | hm
    · exact h p hm
    · rw [List.mem_singleton.mp hm]; exact ⟨k, w, hk, hp, rfl, rfl, hw, hw2⟩
def WdG (ls : List Int) (L s : Int) (l : List (Key × D)) : Prop := ∀ r : Nat, r < ls.length → 0 < ls.getD r 0 → Y.ltP (ls.getD r 0, (r : Int)) (L, s) = true → ∃ w : List Bool, vl l (.inl (r : Int)) = some (.str (bS w)) ∧ w.length = (ls.getD r 0).toNat ∧ (Ln ls → w = wdB ls r)
structure WdN (ls : List Int) (L s : Int) (c : Nat) (nu la : Int) : Prop where
  la0 : 0 ≤ la ∧ la ≤ L ∧ la ≤ 15
  nu0 : 0 ≤ nu ∧ nu ≤ (c : Int) * 2 ^ la.toNat
  ln : Ln ls → nu * (2 : Int) ^ (15 - la).toNat = wS ls L s
theorem WdN.step {ls : List Int} {L : Int} (hL : 1 ≤ L ∧ L ≤ 15) {s : Nat} (hs : s < ls.length) (he : ls.getD s 0 = L) {c : Nat} {nu la : Int} (h : WdN ls L (s : Int) c nu la) :
    0 ≤ nu * 2 ^ (L - la).toNat ∧ nu * 2 ^ (L - la).toNat ≤ (c : Int) * 2 ^ L.toNat ∧ (Ln ls → nu * 2 ^ (L - la).toNat = wordN ls (s : Int)) ∧ WdN ls L ((s + 1 : Nat) : Int) (c + 1) (nu * 2 ^ (L - la).toNat + 1) L := by
  obtain ⟨⟨l0, l1, l2⟩, ⟨n0, n1⟩, hln⟩ := h
  have hpa : (0 : Int) < 2 ^ (L - la).toNat := Int.pow_pos (by decide)
  have hpp : (0 : Int) < 2 ^ (15 - L).toNat := Int.pow_pos (by decide)
  have h0 : 0 ≤ nu * 2 ^ (L - la).toNat := Int.mul_nonneg n0 (Int.le_of_lt hpa)
  have e2 : (c : Int) * 2 ^ la.toNat * 2 ^ (L - la).toNat = (c : Int) * 2 ^ L.toNat := by
    rw [Int.mul_assoc, ← Int.pow_add, show la.toNat + (L - la).toNat = L.toNat by omega]
  have h1 : nu * 2 ^ (L - la).toNat ≤ (c : Int) * 2 ^ L.toNat := by
    rw [← e2]; exact Int.mul_le_mul_of_nonneg_right n1 (Int.le_of_lt hpa)
  have hw : Ln ls → nu * 2 ^ (L - la).toNat = wordN ls (s : Int) ∧ nu * 2 ^ (L - la).toNat * 2 ^ (15 - L).toNat = wS ls L (s : Int) := fun h => by
    have hp : 0 < ls.getD (s : Int).toNat 0 := by rw [Int.toNat_natCast, he]; omega
    obtain ⟨e1, _⟩ := plc_mul h (s := (s : Int)) (by omega) (by omega) hp
    rw [Int.toNat_natCast, he, ← wS_at he] at e1
    have e3 : nu * 2 ^ (L - la).toNat * 2 ^ (15 - L).toNat = wS ls L (s : Int) := by
      rw [Int.mul_assoc, ← Int.pow_add, show (L - la).toNat + (15 - L).toNat = (15 - la).toNat by omega, hln h]
    exact ⟨Int.eq_of_mul_eq_mul_right (by omega) (e3.trans e1), e3⟩
  refine ⟨h0, h1, fun h => (hw h).1, ⟨by omega, Int.le_refl _, hL.2⟩, ⟨by omega, ?_⟩, fun h => ?_⟩
  · have hp1 : (0 : Int) < 2 ^ L.toNat := Int.pow_pos (by decide)
    rw [show ((c + 1 : Nat) : Int) = (c : Int) + 1 by omega, Int.add_mul, Int.one_mul]; omega
  · rw [wS_next hs (by omega), if_pos he, Int.add_mul, Int.one_mul, (hw h).2]
theorem l_words_ok2 {ls : List Int} (hbd : ∀ l ∈ ls, 0 ≤ l ∧ l ≤ 15) (hl : ls.length = 33) (M : List Cn) : Fo (fun a M' => M = M' ∧ ∃ l, a = .new (.dK l) ∧ (∀ r : Nat, r < 33 → 0 < ls.getD r 0 → ∃ w : List Bool, vl l (.inl (r : Int)) = some (.str (bS w)) ∧ w.length = (ls.getD r 0).toNat ∧ (Ln ls → w = wdB ls r)) ∧ KeyL ls l ∧ l.length ≤ 500) (m_l_words [.lst (ls.map D.int)] M) := by
  walk_at "f0"; unfold b_l_words
  walk_at "w"
  refine w_forN (fun i s => ∃ (nu la : Int) (l : List (Key × D)) (e4 e5 : Option Ent), s = ⟨[some (.fz (.lst (ls.map D.int))), some (.ow (.dK l)), some (.fz (.int nu)), some (.fz (.int la)), e4, e5], M⟩ ∧ WdN ls ((i : Int) + 1) 0 (33 * i) nu la ∧ WdG ls ((i : Int) + 1) 0 l ∧ l.length ≤ 33 * i ∧ KeyL ls l) ?_ ?_ ?_
  · refine ⟨0, 0, [], none, none, rfl, ⟨⟨Int.le_refl _, by decide, by decide⟩, ⟨Int.le_refl _, by decide⟩, fun _ => ?_⟩, fun r hr hp hlt => ?_, Nat.le_refl _, fun p h => by cases h⟩
    · have := wS_first ls
      show (0 : Int) * _ = wS ls 1 0
      rw [this, Int.zero_mul]
    · have := ltP_iff.mp hlt
      have this : ls.getD r 0 < 0 + 1 ∨ (ls.getD r 0 = 0 + 1 ∧ (r : Int) < 0) := this
      omega
  · rintro i y s hi ⟨nu, la, l, e4, e5, rfl, hw, hd, hz, hk⟩
    obtain ⟨hi15, rfl⟩ := rng_get hi
    have hi15 : i < 15 := hi15
    walk_at "w"
    refine w_forN (fun k s => ∃ (nu la : Int) (l : List (Key × D)) (e5 : Option Ent), s = ⟨[some (.fz (.lst (ls.map D.int))), some (.ow (.dK l)), some (.fz (.int nu)), some (.fz (.int la)), some (.fz (.int (1 + (i : Int)))), e5], M⟩ ∧ WdN ls ((i : Int) + 1) (k : Int) (33 * i + k) nu la ∧ WdG ls ((i : Int) + 1) (k : Int) l ∧ l.length ≤ 33 * i + k ∧ KeyL ls l) ⟨nu, la, l, e5, rfl, hw, hd, hz, hk⟩ ?_ ?_
    · rintro k y s hk ⟨nu, la, l, e5, rfl, hw, hd, hz, hky⟩
      obtain ⟨hk33, rfl⟩ := rng_get hk
      have hk33 : k < 33 := hk33
      rw [show (0 : Int) + (k : Int) = (k : Int) from Int.zero_add _]
      walk_at "w"
      refine w_ixI (ns := ls) rfl rfl rfl (by omega) (by omega) ?_
      rw [Int.toNat_natCast]
      walk_at "w"
      by_cases he : ls.getD k 0 = 1 + (i : Int)
      · rw [decide_eq_true he]
        have he2 : ls.getD k 0 = (i : Int) + 1 := by omega
        obtain ⟨b0, b1, b2, b3⟩ := hw.step (L := (i : Int) + 1) ⟨by omega, by omega⟩ (by omega) he2
        have hla := hw.la0
        have hnu := hw.nu0
        have hpow : ∀ x : Fin 16, (2 : Int) ^ x.val ≤ 32768 := by decide +kernel
        have hp1 := hpow ⟨la.toNat, by omega⟩
        have hp2 := hpow ⟨((i : Int) + 1).toNat, by omega⟩
        have hp1 : (2 : Int) ^ la.toNat ≤ 32768 := hp1
        have hp2 : (2 : Int) ^ ((i : Int) + 1).toNat ≤ 32768 := hp2
        have hc : ((33 * i + k : Nat) : Int) ≤ 600 := by omega
        have hnb : nu ≤ 19660800 := by
          have := Int.mul_le_mul hc hp1 (Int.le_of_lt (Int.pow_pos (by decide))) (by decide : (0 : Int) ≤ 600)
          omega
        have hnb2 : nu * 2 ^ ((i : Int) + 1 - la).toNat ≤ 19660800 := by
          have := Int.mul_le_mul hc hp2 (Int.le_of_lt (Int.pow_pos (by decide))) (by decide : (0 : Int) ≤ 600)
          omega
        have sh : CShl nu (1 + (i : Int) - la) := cshl_N (m := 30) (by omega) (by decide) (by omega) (by omega)
        walk_at "w"
        rw [show 1 + (i : Int) - la = (i : Int) + 1 - la by omega]
        obtain ⟨n1, en1⟩ : ∃ n1 : Nat, nu * 2 ^ ((i : Int) + 1 - la).toNat = (n1 : Int) := ⟨(nu * 2 ^ ((i : Int) + 1 - la).toNat).toNat, by omega⟩
        rw [en1] at b0 b1 b2 b3 hnb2 ⊢
        walk_at "w"
        rw [show 1 + (i : Int) = ((1 + i : Nat) : Int) by omega]
        refine fo_eq (l_bits_ok (x := n1) (m := 1 + i) (by omega) M) ?_
        walk_at "w"
        refine so_setK (l := l) (k := .inl (k : Int)) rfl rfl (by show l.length < 16777216; omega) ?_
        walk_at "w"
        refine ⟨(n1 : Int) + 1, (i : Int) + 1, pu l (.inl (k : Int)) (.str (bS (bitsN n1 (1 + i)))), some (.fz (.int (k : Int))), ?_, b3, fun r hr hp hlt => ?_, ?_, hky.put hk33 (by omega) (by rw [bitsN_len]; omega) (fun h => by
            unfold wdB
            rw [← b2 h, Int.toNat_natCast, show (ls.getD k 0).toNat = 1 + i by omega])⟩
        · rw [show ((1 + i : Nat) : Int) = (i : Int) + 1 by omega] <;> rfl
        · rw [vl_pu]
          by_cases hrk : r = k
          · subst hrk
            rw [if_pos rfl]
            refine ⟨_, rfl, by rw [bitsN_len]; omega, fun h => ?_⟩
            unfold wdB
            rw [← b2 h, Int.toNat_natCast, show (ls.getD r 0).toNat = 1 + i by omega]
          · rw [if_neg (fun z => by injection z with z; omega)]
            refine hd r hr hp ?_
            have q := ltP_iff.mp hlt
            have q : ls.getD r 0 < (i : Int) + 1 ∨ (ls.getD r 0 = (i : Int) + 1 ∧ (r : Int) < ((k + 1 : Nat) : Int)) := q
            exact ltP_iff.mpr (show ls.getD r 0 < (i : Int) + 1 ∨ (ls.getD r 0 = (i : Int) + 1 ∧ (r : Int) < (k : Int)) by omega)
        · have := puK_len l (.inl (k : Int)) (.str (bS (bitsN n1 (1 + i))))
          omega
      · rw [decide_eq_false he]
        walk_at "w"
        have he2 : ¬ ls.getD k 0 = (i : Int) + 1 := by omega
        have hS : wS ls ((i : Int) + 1) ((k + 1 : Nat) : Int) = wS ls ((i : Int) + 1) (k : Int) := by rw [wS_next (by omega) (by omega), if_neg he2, Int.add_zero]
        refine ⟨nu, la, l, some (.fz (.int (k : Int))), rfl, ⟨hw.la0, ⟨hw.nu0.1, Int.le_trans hw.nu0.2 (Int.mul_le_mul_of_nonneg_right (by omega) (Int.le_of_lt (Int.pow_pos (by decide))))⟩, fun h => by rw [hS]; exact hw.ln h⟩, fun r hr hp hlt => hd r hr hp ?_, by omega, hky⟩
        have q := ltP_iff.mp hlt
        have q : ls.getD r 0 < (i : Int) + 1 ∨ (ls.getD r 0 = (i : Int) + 1 ∧ (r : Int) < ((k + 1 : Nat) : Int)) := q
        refine ltP_iff.mpr (show ls.getD r 0 < (i : Int) + 1 ∨ (ls.getD r 0 = (i : Int) + 1 ∧ (r : Int) < (k : Int)) from ?_)
        by_cases hrk : r = k
        · subst hrk; omega
        · omega
    · rintro s ⟨nu, la, l, e5, rfl, hw, hd, hz, hk⟩
      rw [rng_len, show Int.toNat 33 = 33 from rfl] at hw hd hz
      have ht := wS_turn (ls := ls) (L := (i : Int) + 1) (n := 33) (by omega)
      refine ⟨nu, la, l, _, _, rfl, ⟨⟨hw.la0.1, by have := hw.la0.2.1; omega, hw.la0.2.2⟩, ⟨hw.nu0.1, by rw [show 33 * (i + 1) = 33 * i + 33 by omega]; exact hw.nu0.2⟩, fun h => ?_⟩, fun r hr hp hlt => hd r hr hp ?_, by omega, hk⟩
      · rw [show ((i + 1 : Nat) : Int) + 1 = (i : Int) + 1 + 1 by omega, ht]
        exact hw.ln h
      · have q := ltP_iff.mp hlt
        have q : ls.getD r 0 < ((i + 1 : Nat) : Int) + 1 ∨ (ls.getD r 0 = ((i + 1 : Nat) : Int) + 1 ∧ (r : Int) < 0) := q
        exact ltP_iff.mpr (show ls.getD r 0 < (i : Int) + 1 ∨ (ls.getD r 0 = (i : Int) + 1 ∧ (r : Int) < ((33 : Nat) : Int)) by omega)
  · rintro s ⟨nu, la, l, e4, e5, rfl, hw, hd, hz, hk⟩
    rw [rng_len, show (16 - 1 : Int).toNat = 15 from rfl] at hd hz
    walk_at "w"
    refine ⟨rfl, l, rfl, fun r hr hp => hd r (by omega) hp ?_, hk, by omega⟩
    have hb := hbd _ (show ls.getD r 0 ∈ ls by rw [List.getD_eq_getElem?_getD, List.getElem?_eq_getElem (by omega)]; exact List.getElem_mem _)
    exact ltP_iff.mpr (show ls.getD r 0 < ((15 : Nat) : Int) + 1 ∨ _ from .inl (by omega))
theorem ch_inj : ∀ {A B : List Bool}, A.map ch = B.map ch → A = B
  | [], [], _ => rfl
  | [], _ :: _, h => by cases h
  | _ :: _, [], h => by cases h
  | x :: A, y :: B, h => by
    rw [List.map_cons, List.map_cons] at h
    injection h with h1 h2
    rw [ch_inj h2]
    cases x <;> cases y <;> first | rfl | (exact absurd h1 (by decide))
theorem bS_inj {A B : List Bool} : bS A = bS B ↔ A = B := ⟨fun h => ch_inj (tx_inj h), fun h => by rw [h]⟩
theorem bS_ok (B : List Bool) : PySem.PyData.strOk (bS B) = true := by
  show ((B.map ch).toArray.all (· < 0x110000)) = true
  rw [List.all_toArray, List.all_eq_true]
  intro c hc
  obtain ⟨b, _, rfl⟩ := List.mem_map.mp hc
  cases b <;> decide
def HitW (ls : List Int) (B : List Bool) (s : Nat) (X : List Bool) : Prop := s < ls.length ∧ 0 < ls.getD s 0 ∧ B = wdB ls s ++ X
theorem vl_key {l : List (Key × D)} {k : Key} {d : D} (h : vl l k = some d) : ∃ (i : Nat) (p : Key × D), l[i]? = some p ∧ p.1 = k ∧ p.2 = d := by
  unfold vl at h
  obtain ⟨p, hp, h2⟩ := Option.map_eq_some_iff.mp h
  obtain ⟨i, hi⟩ := List.mem_iff_getElem?.mp (List.mem_of_find?_eq_some hp)
  exact ⟨i, p, hi, of_decide_eq_true (List.find?_some (p := fun q : Key × D => decide (q.1 = k)) hp), h2⟩
theorem take_pre {A B : List Bool} : B.take A.length = A ↔ ∃ X, B = A ++ X := by
  constructor
  · intro h
    exact ⟨B.drop A.length, by conv => lhs; rw [← List.take_append_drop A.length B, h]⟩
  · rintro ⟨X, rfl⟩
    exact List.take_left
theorem nx_hit {ls : List Int} (h : Ln ls) {B : List Bool} {s : Nat} {X : List Bool} (hX : HitW ls B s X) : nxS ls 15 0 0 B = some (s, (wdB ls s).length) ∧ B.drop (wdB ls s).length = X := by
  obtain ⟨a1, a2, rfl⟩ := hX
  exact ⟨nxS_hit h a1 a2 X, List.drop_left⟩
theorem nx_no {ls : List Int} (h : Ln ls) {B : List Bool} (hn : ∀ s X, ¬ HitW ls B s X) : nxS ls 15 0 0 B = none := by
  cases e : nxS ls 15 0 0 B with
  | none => rfl
  | some p =>
    obtain ⟨s, z⟩ := p
    obtain ⟨a1, a2, _, a4⟩ := nxS_of h e
    exact absurd ⟨a1, a2, a4⟩ (hn s _)
theorem unp_none {ls : List Int} {many k : Nat} {made : List Int} {B : List Bool} (hm : made.length < many) (e : tkR ls many made.length B = none) : unp ls many (k + 1) made B = none := by
  unfold unp; rw [if_pos hm, e]
theorem unp_some {ls : List Int} {many k : Nat} {made : List Int} {B B' : List Bool} {t : Tk} (hm : made.length < many) (e : tkR ls many made.length B = some (t, B')) : unp ls many (k + 1) made B = unp ls many k (stp made t) B' := by
  conv => lhs; unfold unp
  rw [if_pos hm, e]
theorem unp_end {ls : List Int} {many k : Nat} {made : List Int} {B : List Bool} (hm : ¬ made.length < many) : unp ls many (k + 1) made B = some (made, B) := by
  unfold unp; rw [if_neg hm]
/-- the word that stands at a place, sought through all -/
theorem one_word {ls : List Int} (h : Ln ls) (h33 : ls.length = 33) {l : List (Key × D)} (hW : ∀ r : Nat, r < 33 → 0 < ls.getD r 0 → vl l (.inl (r : Int)) = some (.str (bS (wdB ls r)))) {B : List Bool} {y : Int}
    (hy : (y = -1 ∧ ∀ (j : Nat) (p : Key × D) (r : Nat), j < l.length → l[j]? = some p → p.1 = .inl (r : Int) → ∀ X, ¬ HitW ls B r X) ∨ (∃ (s : Nat) (X : List Bool), y = (s : Int) ∧ HitW ls B s X)) : (y = -1 ∧ nxS ls 15 0 0 B = none) ∨ (∃ (s : Nat), y = (s : Int) ∧ s < 33 ∧ 0 < ls.getD s 0 ∧ nxS ls 15 0 0 B = some (s, (wdB ls s).length)) := by
  rcases hy with ⟨rfl, hn⟩ | ⟨s, X, rfl, hX⟩
  · refine .inl ⟨rfl, nx_no h fun s X hX => ?_⟩
    obtain ⟨j, p, a1, a2, _⟩ := vl_key (hW s (by have := hX.1; omega) hX.2.1)
    exact hn j p s (List.getElem?_eq_some_iff.mp a1).1 a1 a2 X hX
  · exact .inr ⟨s, rfl, by have := hX.1; omega, hX.2.1, (nx_hit h hX).1⟩
theorem law_step {f : Nat} (hf : f < 2 ^ 16) : (if 65535 < f * 2 then ((f * 2) ^^^ 4129) &&& 65535 else f * 2) = cstp f := by
  refine Nat.eq_of_testBit_eq fun i => ?_
  rw [cstp_bit hf]
  have e16 : (2 : Nat) ^ 16 = 65536 := rfl
  have hm : (65535 : Nat).testBit i = decide (i < 16) := Nat.testBit_two_pow_sub_one (n := 16) (i := i)
  by_cases h : 65535 < f * 2
  · have ht : f.testBit 15 = true := by
      cases q : f.testBit 15 with
      | true => rfl
      | false =>
        have : f < 2 ^ 15 := lt_of_bits fun k hk => by
          by_cases e : k = 15
          · rw [e]; exact q
          · exact hi_false hf (by omega)
        have e15 : (2 : Nat) ^ 15 = 32768 := rfl
        omega
    rw [if_pos h, Nat.testBit_and, Nat.testBit_xor, bit_mul2, hm, ht]
    by_cases h16 : i < 16
    · simp [h16]
    · simp [h16, feed_hi (show 16 ≤ i by omega)]
  · have e15 : (2 : Nat) ^ 15 = 32768 := rfl
    have ht : f.testBit 15 = false := Nat.testBit_lt_two_pow (by omega)
    rw [if_neg h, bit_mul2, ht]
    by_cases h16 : i < 16
    · simp [h16]
    · have : f.testBit (i - 1) = false := hi_false (n := 15) (by omega) (by omega)
      simp [this]
theorem l_sum_ok {ns : List Int} (hb : Z.Byt ns) (M : List Cn) : m_l_sum [.lst (ns.map D.int)] M = .ok (.new (.lst ((crcB ns).map D.int))) M := by
  refine fo_ok (P := fun _ _ => True) ?_
  walk_at "f0"; unfold b_l_sum
  walk_at "w"
  refine w_forN (fun i s => ∃ e3 e4 : Option Ent, s = ⟨[some (.fz (.lst (ns.map D.int))), some (.fz (.int (crcN 65535 (ns.take i) : Nat))), e3, e4], M⟩) ⟨_, _, rfl⟩ ?_ ?_
  · rintro i y s hi ⟨e3, e4, rfl⟩
    obtain ⟨b, hbi, rfl⟩ := map_get hi
    have hbb := byt_at hb hbi
    have hlt := crcN_lt (ns := ns.take i) (f := 65535) (by decide) (byt_take hb)
    rw [crcN_more hbi]
    generalize crcN 65535 (ns.take i) = g at *
    have sh8 := shl_byte hbb
    walk_at "w"
    rw [byte_int hbb]
    have hx := xor_byte_lt hlt hbb
    generalize hX : g ^^^ (b.toNat * 256) = x0 at *
    walk_at "w"
    refine w_forN (fun j s => ∃ e4 : Option Ent, s = ⟨[some (.fz (.lst (ns.map D.int))), some (.fz (.int (citr j x0 : Nat))), some (.fz (.int b)), e4], M⟩) ⟨_, rfl⟩ ?_ ?_
    · rintro j y s hj ⟨e4, rfl⟩
      have hl := citr_lt hx j
      have en : citr (j + 1) x0 = cstp (citr j x0) := rfl
      rw [en]
      generalize citr j x0 = x at *
      have sh := shl_nat (x := x) (j := 1) (m := 16) hl (by decide) (by decide) (by decide)
      have e2 : (x : Int) * 2 ^ (1 : Int).toNat = ((x * 2 : Nat) : Int) := by
        rw [show (1 : Int).toNat = 1 from rfl]; omega
      have hst := law_step hl
      walk_at "w"
      rw [e2]
      refine z_if (fun h => ?_) (fun h => ?_)
      · walk_at "w"
        rw [if_pos (by omega)] at hst
        have ex : Builtin.bitXor ((x * 2 : Nat) : Int) 4129 = ((x * 2 ^^^ 4129 : Nat) : Int) := Z.xor_nat _ 4129
        have ea : Builtin.bitAnd ((x * 2 ^^^ 4129 : Nat) : Int) 65535 = (((x * 2 ^^^ 4129) &&& 65535 : Nat) : Int) := Z.and_nat _ 65535
        rw [ex, ea, hst]
        exact ⟨_, rfl⟩
      · walk_at "w"
        rw [if_neg (by omega)] at hst
        rw [hst]
        exact ⟨_, rfl⟩
    · rintro s ⟨e4, rfl⟩
      rw [rng_len]
      exact ⟨_, _, by unfold byt8; rw [hX]; rfl⟩
  · rintro s ⟨e3, e4, rfl⟩
    rw [List.length_map, List.take_length]
    walk_at "w"
    exact ⟨rfl, rfl⟩
theorem byL_one {B : List Bool} (h : B.length = 8) : byL B = [val B] := by
  have := byL_app (A := []) (C := B) rfl h
  rw [List.nil_append] at this
  exact this
theorem padB_8' {B : List Bool} (h : B.length = 8) : padB B = B := by
  show B ++ List.replicate (padd B.length) false = B
  rw [h]; show B ++ [] = B; rw [List.append_nil]
theorem val_lead (n : Nat) (B : List Bool) : val (List.replicate n false ++ B) = val B := by
  rw [val_cat, val_zero, Int.zero_mul, Int.zero_add]
/-- the byte of so many bits, noughts ahead -/
theorem byte_of {n : Nat} {B : List Bool} (h : n + B.length = 8) : byL (padB (List.replicate n false ++ B)) = [val B] := by
  have hl : (List.replicate n false ++ B).length = 8 := by rw [List.length_append, List.length_replicate]; exact h
  rw [padB_8' hl, byL_one hl, val_lead]
theorem lit5 : Str.ofString "00000" = bS (List.replicate 5 false) := by decide +kernel
theorem lit4 : Str.ofString "0000" = bS (List.replicate 4 false) := by decide +kernel
theorem lit1 : Str.ofString "1" = tx [49] := by decide +kernel
theorem has_one {B : List Bool} : 49 ∈ B.map ch ↔ val B ≠ 0 := by
  constructor
  · intro h z
    rw [val_eq0 z] at h
    obtain ⟨b, hb, e⟩ := List.mem_map.mp h
    rw [(List.mem_replicate.mp hb).2] at e
    cases e
  · intro h
    refine Classical.byContradiction fun hn => h ?_
    have : B = List.replicate B.length false := List.eq_replicate_iff.mpr ⟨rfl, fun b hb => by
      cases b with
      | false => rfl
      | true => exact absurd (List.mem_map.mpr ⟨true, hb, rfl⟩) hn⟩
    rw [this, val_zero]
theorem w_slB0 {s : Stt} {QA : AI → Stt → Prop} {X : Exn → Stt → Prop} {B : List Bool} {b : Nat} (c : B.length ≤ sizeLine) (h : QA (.val (.str (bS (B.take b)))) s) : Wo QA X (fSl s (.val (.str (bS B))) none (some (b : Int))) := by
  refine w_slS (by rw [bS_len]; exact c) ?_
  have : cutS (bS B) none (some (b : Int)) = bS (B.take b) := by
    unfold bS
    rw [tx_cut, cutL_to _ (by omega), Int.toNat_natCast, List.map_take]
  rw [this]; exact h
theorem w_slBf {s : Stt} {QA : AI → Stt → Prop} {X : Exn → Stt → Prop} {B : List Bool} {a : Nat} (c : B.length ≤ sizeLine) (h : QA (.val (.str (bS (B.drop a)))) s) : Wo QA X (fSl s (.val (.str (bS B))) (some (a : Int)) none) := by
  refine w_slS (by rw [bS_len]; exact c) ?_
  have : cutS (bS B) (some (a : Int)) none = bS (B.drop a) := by
    unfold bS
    rw [tx_cut, cutL_from _ (by omega), Int.toNat_natCast, List.map_drop]
  rw [this]; exact h
theorem back_at {made : List Int} {d : Int} (h1 : 1 ≤ d) (h2 : d ≤ made.length) : atI (made.map D.int) (0 - d) = some (.int (made.getD (made.length - d.toNat) 0)) := by
  rw [atI_map]
  have e : atI made (0 - d) = made[made.length - d.toNat]? := by
    unfold atI ixN
    rw [if_neg (by omega), if_pos (by omega), show (0 - d + (made.length : Int)).toNat = made.length - d.toNat by omega]
    rfl
  rw [e, List.getD_eq_getElem?_getD, List.getElem?_eq_getElem (by omega)]
  rfl
theorem l_take_ok {ls : List Int} (h : Ln ls) (h33 : ls.length = 33) {l : List (Key × D)} (hW : ∀ r : Nat, r < 33 → 0 < ls.getD r 0 → vl l (.inl (r : Int)) = some (.str (bS (wdB ls r)))) (hK : KeyL ls l) {B : List Bool} (h8 : B.length % 8 = 0) (hB : B.length ≤ 50000) {many : Nat} (hm : many ≤ 255) (M : List Cn) :
    Fo (fun a M' => M = M' ∧ match unp ls many (many + 1) [] B with
      | none => a = .val .non
      | some (made, R) => if val (R.take (R.length % 8)) ≠ 0 then a = .val .non else a = .val (.tup [.lst (made.map D.int), .int ((B.length / 8 : Nat) - (R.length / 8 : Nat) : Int)])) (m_l_take [.str (bS B), .dK l, .int (many : Int)] M) := by
  walk_at "f0"; unfold b_l_take
  walk_at "w"
  refine w_while (fun n s => ∃ (made : List Int) (at_ : Nat) (e5 e6 e7 e8 e9 e10 e11 : Option Ent), s = ⟨[some (.fz (.str (bS B))), some (.fz (.dK l)), some (.fz (.int (many : Int))), some (.ow (.lst (made.map D.int))), some (.fz (.int (at_ : Int))), e5, e6, e7, e8, e9, e10, e11], M⟩ ∧ at_ ≤ B.length ∧ made.length ≤ many ∧ n = many - made.length ∧ unp ls many (many + 1) [] B = unp ls many (many - made.length + 1) made (B.drop at_)) many ⟨[], 0, _, _, _, _, _, _, _, rfl, Nat.zero_le _, Nat.zero_le _, rfl, rfl⟩ ?_ oe_no
  rintro n s ⟨made, at_, e5, e6, e7, e8, e9, e10, e11, rfl, hat, hml, hn, hu⟩
  walk_at "w"
  rw [List.length_map]
  walk_at "w"
  refine z_if (fun q => ?_) (fun q => ?_)
  · have q : made.length < many := by omega
    walk_at "wi"
    refine w_forN (fun j s => ∃ (y : Int) (e6 e7 : Option Ent), s = ⟨[some (.fz (.str (bS B))), some (.fz (.dK l)), some (.fz (.int (many : Int))), some (.ow (.lst (made.map D.int))), some (.fz (.int (at_ : Int))), some (.fz (.int y)), e6, e7, e8, e9, e10, e11], M⟩ ∧ ((y = -1 ∧ ∀ (j' : Nat) (p : Key × D) (r : Nat), j' < j → l[j']? = some p → p.1 = .inl (r : Int) → ∀ X, ¬ HitW ls (B.drop at_) r X) ∨ (∃ (s : Nat) (X : List Bool), y = (s : Int) ∧ HitW ls (B.drop at_) s X))) ⟨-1, e6, e7, rfl, .inl ⟨rfl, fun j' p r hj => absurd hj (Nat.not_lt_zero _)⟩⟩ ?_ ?_
    · rintro j z s hj ⟨y, e6, e7, rfl, hy⟩
      obtain ⟨p, hp, rfl⟩ : ∃ p, l[j]? = some p ∧ z = .tup [kD p.1, p.2] := by
        have hj : (l.map fun p => D.tup [kD p.1, p.2])[j]? = some z := hj
        rw [List.getElem?_map] at hj
        obtain ⟨p, h1, h2⟩ := Option.map_eq_some_iff.mp hj
        exact ⟨p, h1, h2.symm⟩
      obtain ⟨r, w, hr, hr0, hp1, hp2, _, hw⟩ := hK p (List.mem_of_getElem? hp)
      have hw := hw h
      rw [hp1, hp2, hw, show kD (Sum.inl (r : Int)) = D.int (r : Int) from rfl]
      have hwl : (wdB ls r).length ≤ 15 := by
        rw [wdB_len]
        have := lnat h r
        omega
      walk_at "wi"
      refine w_lenB (by show _ ≤ 16777216; omega) ?_
      walk_at "wi"
      rw [show (at_ : Int) + ((wdB ls r).length : Int) = ((at_ + (wdB ls r).length : Nat) : Int) by omega]
      refine w_slB (by show _ ≤ 16777216; omega) ?_
      rw [show at_ + (wdB ls r).length - at_ = (wdB ls r).length by omega]
      walk_at "wi"
      refine w_eqS (bS_ok _) (bS_ok _) ?_
      rw [show decide (bS (List.take (wdB ls r).length (List.drop at_ B)) = bS (wdB ls r)) = decide ((B.drop at_).take (wdB ls r).length = wdB ls r) from decide_eq_decide.mpr bS_inj]
      by_cases hq : (B.drop at_).take (wdB ls r).length = wdB ls r
      · rw [decide_eq_true hq]
        walk_at "w"
        obtain ⟨X, hX⟩ := take_pre.mp hq
        exact ⟨(r : Int), _, _, rfl, .inr ⟨r, X, rfl, by omega, hr0, hX⟩⟩
      · rw [decide_eq_false hq]
        walk_at "w"
        refine ⟨y, _, _, rfl, ?_⟩
        rcases hy with ⟨rfl, hno⟩ | hy
        · refine .inl ⟨rfl, fun j' p' r' hj' hp' hr' X hX => ?_⟩
          by_cases e : j' = j
          · subst e
            obtain rfl : p = p' := Option.some.inj (hp.symm.trans hp')
            rw [hp1] at hr'
            obtain rfl : r = r' := by injection hr' with z; omega
            exact hq (take_pre.mpr ⟨X, hX.2.2⟩)
          · exact hno j' p' r' (by omega) hp' hr' X hX
        · exact .inr hy
    · rintro s ⟨y, e6, e7, rfl, hy⟩
      rw [show (dIt KD.items l).length = l.length from by show (l.map _).length = _; rw [List.length_map]] at hy
      replace hy := one_word h h33 hW hy
      obtain ⟨k, hk⟩ : ∃ k, many - made.length = k + 1 := Nat.exists_eq_succ_of_ne_zero (Nat.sub_ne_zero_of_lt q)
      rw [hk] at hu
      walk_at "wi"
      rcases hy with ⟨rfl, hnx⟩ | ⟨s, rfl, hs, hs0, hnx⟩
      · walk_at "w"
        refine ⟨rfl, ?_⟩
        have e : tkR ls many made.length (B.drop at_) = none := by unfold tkR; rw [hnx]
        rw [hu, unp_none q e]
      · have hz := nxS_of h hnx
        obtain ⟨z1, z2, z3, z4⟩ := hz
        have hwl : (wdB ls s).length ≤ 15 := by
          rw [wdB_len]
          have := lnat h s
          omega
        have hfit : at_ + (wdB ls s).length ≤ B.length := by
          have := congrArg List.length z4
          rw [List.length_append, List.length_drop, List.length_drop, List.length_drop] at this
          omega
        walk_at "w"
        refine w_ixK rfl rfl (hW s hs hs0) ?_
        walk_at "w"
        refine w_lenB (by show _ ≤ 16777216; omega) ?_
        walk_at "w"
        rw [show (at_ : Int) + ((wdB ls s).length : Int) = ((at_ + (wdB ls s).length : Nat) : Int) by omega]
        have hdd : B.drop (at_ + (wdB ls s).length) = (B.drop at_).drop (wdB ls s).length := by rw [List.drop_drop]
        generalize hat2 : at_ + (wdB ls s).length = at2 at hfit hdd ⊢
        by_cases h32 : s = 32
        · subst h32
          rw [show (if decide (((32 : Nat) : Int) = 32) = true then (1 : Int) else 0) = 1 from rfl]
          refine w_ixL (l := [D.int 3, D.int 12]) (d := .int 12) rfl rfl rfl rfl ?_
          walk_at "w"
          rw [show (at2 : Int) + 12 = ((at2 + 12 : Nat) : Int) by omega]
          refine w_slB (by show _ ≤ 16777216; omega) ?_
          rw [show at2 + 12 - at2 = 12 by omega]
          walk_at "w"
          refine w_lenB (by show _ ≤ 16777216; rw [List.length_take]; omega) ?_
          walk_at "w"
          rw [show (if decide (((32 : Nat) : Int) = 32) = true then (1 : Int) else 0) = 1 from rfl]
          refine w_ixL (l := [D.int 3, D.int 12]) (d := .int 12) rfl rfl rfl rfl ?_
          walk_at "w"
          refine z_if (fun q2 => ?_) (fun q2 => ?_)
          · walk_at "w"
            refine ⟨rfl, ?_⟩
            have e : tkR ls many made.length (B.drop at_) = none := by
              unfold tkR
              rw [hnx]
              dsimp only
              rw [if_pos rfl, ← hdd, if_pos (by rw [List.length_take] at q2; omega)]
            rw [hu, unp_none q e]
          · have hl12 : 12 ≤ (B.drop at2).length := by rw [List.length_take] at q2; omega
            have hat3 : at2 + 12 ≤ B.length := by rw [List.length_drop] at hl12; omega
            walk_at "w"
            refine w_lenB (by show _ ≤ 16777216; rw [List.length_take]; omega) ?_
            walk_at "w"
            have e8 : ((B.drop at2).take 12).take 8 = (B.drop at2).take 8 := by rw [List.take_take]; rfl
            have e4 : ((B.drop at2).take 12).drop 8 = ((B.drop at2).drop 8).take 4 := by rw [List.drop_take]
            refine w_slB0 (b := 8) (by show _ ≤ 16777216; rw [List.length_take]; omega) ?_
            rw [e8]
            walk_at "w"
            refine fo_eq (l_bytes_ok (by rw [List.length_take]; omega) M) ?_
            have b8 := byte_of (n := 0) (B := (B.drop at2).take 8) (by rw [List.length_take]; omega)
            rw [show List.replicate 0 false ++ (B.drop at2).take 8 = (B.drop at2).take 8 from rfl] at b8
            rw [b8]
            walk_at "w"
            refine w_ixL (l := [D.int (val ((B.drop at2).take 8))]) (d := .int (val ((B.drop at2).take 8))) rfl rfl rfl rfl ?_
            walk_at "w"
            refine w_slBf (a := 8) (by show _ ≤ 16777216; rw [List.length_take]; omega) ?_
            rw [e4, lit4]
            walk_at "w"
            refine w_addB (by show _ ≤ 16777216; rw [List.length_replicate, List.length_take]; omega) ?_
            walk_at "w"
            refine fo_eq (l_bytes_ok (by rw [List.length_append, List.length_replicate, List.length_take]; omega) M) ?_
            rw [byte_of (n := 4) (B := ((B.drop at2).drop 8).take 4) (by rw [List.length_take, List.length_drop]; omega)]
            walk_at "w"
            refine w_ixL (l := [D.int (val (((B.drop at2).drop 8).take 4))]) (d := .int (val (((B.drop at2).drop 8).take 4))) rfl rfl rfl rfl ?_
            walk_at "w"
            have v8 := val_bd ((B.drop at2).take 8)
            have v4 := val_bd (((B.drop at2).drop 8).take 4)
            rw [show ((B.drop at2).take 8).length = 8 by rw [List.length_take]; omega, show (2 : Int) ^ 8 = 256 from rfl] at v8
            rw [show (((B.drop at2).drop 8).take 4).length = 4 by rw [List.length_take, List.length_drop]; omega, show (2 : Int) ^ 4 = 16 from rfl] at v4
            have htk : tkR ls many made.length (B.drop at_) = if (made.length : Int) < val ((B.drop at2).take 8) + 1 ∨ (many : Int) - made.length < val (((B.drop at2).drop 8).take 4) + 1 then none else some (.back (val ((B.drop at2).take 8) + 1) (val (((B.drop at2).drop 8).take 4) + 1), B.drop (at2 + 12)) := by
              unfold tkR
              rw [hnx]
              dsimp only
              rw [if_pos rfl, ← hdd, if_neg (by omega), show B.drop (at2 + 12) = (B.drop at2).drop 12 by rw [List.drop_drop]]
            generalize val ((B.drop at2).take 8) = d8 at v8 htk ⊢
            generalize val (((B.drop at2).drop 8).take 4) = d4 at v4 htk ⊢
            rw [List.length_map]
            walk_at "w"
            have hbad : ((made.length : Int) < d8 + 1 ∨ (many : Int) - made.length < d4 + 1) → unp ls many (many + 1) [] B = none := fun z => by
              rw [if_pos z] at htk
              rw [hu, unp_none q htk]
            refine z_if (fun q3 => ?_) (fun q3 => ?_)
            · walk_at "w"
              exact ⟨rfl, by rw [hbad (.inl (by omega))]⟩
            walk_at "w"
            rw [List.length_map]
            walk_at "w"
            refine z_if (fun q4 => ?_) (fun q4 => ?_)
            · walk_at "w"
              exact ⟨rfl, by rw [hbad (.inr (by omega))]⟩
            rw [if_neg (by omega)] at htk
            walk_at "w"
            refine w_forN (fun j s => ∃ (e11 : Option Ent), s = ⟨[some (.fz (.str (bS B))), some (.fz (.dK l)), some (.fz (.int (many : Int))), some (.ow (.lst ((cp (d8 + 1).toNat j made).map D.int))), some (.fz (.int ((at2 : Int) + 12))), some (.fz (.int 32)), e6, e7, some (.fz (.str (bS ((B.drop at2).take 12)))), some (.fz (.int (d8 + 1))), some (.fz (.int (d4 + 1))), e11], M⟩) ⟨e11, ?_⟩ ?_ ?_
            · rw [show ((List.take 12 (List.drop at2 B)).length : Int) = 12 by rw [List.length_take]; omega]
              rfl
            · rintro j y s hj ⟨e11, rfl⟩
              obtain ⟨hj2, rfl⟩ := rng_get hj
              have hcl := cp_len (d8 + 1).toNat j made
              walk_at "w"
              refine w_ixL rfl rfl rfl (back_at (by omega) (by omega)) ?_
              walk_at "w"
              refine w_app rfl (by rw [List.length_map]; show _ < 16777216; omega) ?_
              walk_at "w"
              refine ⟨some (.fz (.int (0 + (j : Int)))), ?_⟩
              rw [cp_snoc, List.map_append] <;> rfl
            · rintro s ⟨e11, rfl⟩
              rw [rng_len, show (d4 + 1).toNat = (d4 + 1).toNat from rfl]
              have hcl := cp_len (d8 + 1).toNat (d4 + 1).toNat made
              refine ⟨many - (cp (d8 + 1).toNat (d4 + 1).toNat made).length, by omega, _, at2 + 12, _, _, _, _, _, _, _, rfl, hat3, by omega, rfl, ?_⟩
              rw [hu, unp_some q htk]
              show unp ls many (k + 1) (cp (d8 + 1).toNat (d4 + 1).toNat made) _ = _
              exact unp_fuel (by omega) (by omega)
        · have hc0 : (if decide ((s : Int) = 32) = true then (1 : Int) else 0) = 0 := by rw [decide_eq_false (by omega)]; rfl
          rw [hc0]
          refine w_ixL (l := [D.int 3, D.int 12]) (d := .int 3) rfl rfl rfl rfl ?_
          walk_at "w"
          rw [show (at2 : Int) + 3 = ((at2 + 3 : Nat) : Int) by omega]
          refine w_slB (by show _ ≤ 16777216; omega) ?_
          rw [show at2 + 3 - at2 = 3 by omega]
          walk_at "w"
          refine w_lenB (by show _ ≤ 16777216; rw [List.length_take]; omega) ?_
          walk_at "w"
          rw [hc0]
          refine w_ixL (l := [D.int 3, D.int 12]) (d := .int 3) rfl rfl rfl rfl ?_
          walk_at "w"
          refine z_if (fun q2 => ?_) (fun q2 => ?_)
          · walk_at "w"
            refine ⟨rfl, ?_⟩
            have e : tkR ls many made.length (B.drop at_) = none := by
              unfold tkR
              rw [hnx]
              dsimp only
              rw [if_neg h32, ← hdd, if_pos (by rw [List.length_take] at q2; omega)]
            rw [hu, unp_none q e]
          · have hl3 : 3 ≤ (B.drop at2).length := by rw [List.length_take] at q2; omega
            have hat3 : at2 + 3 ≤ B.length := by rw [List.length_drop] at hl3; omega
            walk_at "w"
            refine w_lenB (by show _ ≤ 16777216; rw [List.length_take]; omega) ?_
            walk_at "w"
            rw [lit5]
            refine w_addB (by show _ ≤ 16777216; rw [List.length_replicate, List.length_take]; omega) ?_
            walk_at "w"
            refine fo_eq (l_bytes_ok (by rw [List.length_append, List.length_replicate, List.length_take]; omega) M) ?_
            rw [byte_of (n := 5) (B := (B.drop at2).take 3) (by rw [List.length_take]; omega)]
            walk_at "w"
            refine w_ixL (l := [D.int (val ((B.drop at2).take 3))]) (d := .int (val ((B.drop at2).take 3))) rfl rfl rfl rfl ?_
            walk_at "w"
            refine w_app rfl (by rw [List.length_map]; show _ < 16777216; omega) ?_
            walk_at "w"
            have htk : tkR ls many made.length (B.drop at_) = some (.byte (8 * (s : Int) + val ((B.drop at2).take 3)), B.drop (at2 + 3)) := by
              unfold tkR
              rw [hnx]
              dsimp only
              rw [if_neg h32, ← hdd, if_neg (by omega), show B.drop (at2 + 3) = (B.drop at2).drop 3 by rw [List.drop_drop]]
            refine ⟨many - (made.length + 1), by omega, made ++ [8 * (s : Int) + val ((B.drop at2).take 3)], at2 + 3, some (.fz (.int (s : Int))), e6, e7, some (.fz (.str (bS ((B.drop at2).take 3)))), e9, e10, e11, ?_, hat3, by rw [List.length_append]; show _ + 1 ≤ _; omega, by rw [List.length_append]; rfl, ?_⟩
            · rw [List.map_append, show ((at2 + 3 : Nat) : Int) = (at2 : Int) + ((List.take 3 (List.drop at2 B)).length : Int) by rw [List.length_take]; omega] <;> rfl
            · rw [hu, unp_some q htk]
              show unp ls many (k + 1) (made ++ [8 * (s : Int) + val ((B.drop at2).take 3)]) _ = _
              have hl1 : (made ++ [8 * (s : Int) + val ((B.drop at2).take 3)]).length = made.length + 1 := by rw [List.length_append]; rfl
              exact unp_fuel (by omega) (by omega)
  · have q : ¬ made.length < many := by omega
    rw [unp_end q] at hu
    walk_at "w"
    have hmod : (0 - (at_ : Int)) % 8 = (((B.drop at_).length % 8 : Nat) : Int) := by rw [List.length_drop]; omega
    rw [hmod, show (at_ : Int) + (((B.drop at_).length % 8 : Nat) : Int) = ((at_ + (B.drop at_).length % 8 : Nat) : Int) by omega]
    refine w_slB (by show _ ≤ 16777216; omega) ?_
    rw [show at_ + (B.drop at_).length % 8 - at_ = (B.drop at_).length % 8 by omega, lit1]
    walk_at "w"
    refine w_inS ?_
    walk_at "w"
    refine z_if (fun q2 => ?_) (fun q2 => ?_)
    · walk_at "w"
      refine ⟨rfl, ?_⟩
      rw [hu]
      dsimp only
      rw [if_pos (has_one.mp q2)]
    · walk_at "w"
      refine ⟨rfl, ?_⟩
      rw [hu]
      dsimp only
      rw [if_neg (fun z => q2 (has_one.mpr z))]
      have : ((at_ : Int) + 7) / 8 = ((B.length / 8 : Nat) : Int) - (((B.drop at_).length / 8 : Nat) : Int) := by rw [List.length_drop]; omega
      rw [this] <;> rfl
theorem bitsR_join (R : List Int) : (R.map fun b => bitsN b.toNat 8).flatten = bitsOf R := rfl
theorem joinB (Bs : List (List Bool)) : Txt.join (Str.ofString "") (Bs.map bS) = bS Bs.flatten := by
  have e : Str.ofString "" = tx [] := by decide +kernel
  rw [e, show Bs.map bS = (Bs.map fun B => B.map ch).map tx by rw [List.map_map]; rfl, tx_join0]
  unfold bS
  rw [List.map_flatten]
theorem strsB (Bs : List (List Bool)) : strsD (Bs.map fun B => D.str (bS B)) = some (Bs.map bS) := by
  rw [show (Bs.map fun B => D.str (bS B)) = (Bs.map bS).map D.str by rw [List.map_map]; rfl]
  exact strsD_map _
theorem sum_lens {Bs : List (List Bool)} {m : Nat} (h : ∀ B ∈ Bs, B.length ≤ m) : ((Bs.map bS).map (·.length)).sum ≤ m * Bs.length := by
  induction Bs with
  | nil => exact Nat.zero_le _
  | cons B Bs ih =>
    have h1 := h B List.mem_cons_self
    have h2 := ih fun C hC => h C (List.mem_cons_of_mem _ hC)
    rw [List.map_cons, List.map_cons, List.sum_cons, List.length_cons]
    have e := bS_len B
    rw [Nat.mul_add, Nat.mul_one]
    show (bS B).length + _ ≤ _
    omega
theorem fold_max0 : ∀ (ns : List Int) (n : Int), 0 ≤ n → (∀ x ∈ ns, 0 ≤ x) → (ns.foldl max n = 0 ↔ ¬ (0 < n ∨ ∃ x ∈ ns, 0 < x))
  | [], n, h, _ => by show n = 0 ↔ _; simp; omega
  | x :: ns, n, h, hx => by
    have h1 := hx x List.mem_cons_self
    rw [List.foldl_cons, fold_max0 ns (max n x) (by omega) (fun y hy => hx y (List.mem_cons_of_mem _ hy))]
    constructor
    · intro q z
      refine q ?_
      rcases z with z | ⟨y, hy, z⟩
      · exact .inl (by omega)
      · rcases List.mem_cons.mp hy with rfl | hy
        · exact .inl (by omega)
        · exact .inr ⟨y, hy, z⟩
    · intro q z
      refine q ?_
      rcases z with z | ⟨y, hy, z⟩
      · by_cases e : 0 < n
        · exact .inl e
        · exact .inr ⟨x, List.mem_cons_self, by omega⟩
      · exact .inr ⟨y, List.mem_cons_of_mem _ hy, z⟩
theorem max_any {ls : List Int} (h0 : ls ≠ []) (hb : ∀ x ∈ ls, 0 ≤ x) : ∃ m : Int, gMax ls = some (.int m) ∧ (m = 0 ↔ (ls.any fun l => decide (0 < l)) = false) := by
  cases ls with
  | nil => exact absurd rfl h0
  | cons n ns =>
    refine ⟨_, rfl, ?_⟩
    rw [fold_max0 ns n (hb n List.mem_cons_self) (fun y hy => hb y (List.mem_cons_of_mem _ hy))]
    rw [List.any_cons]
    constructor
    · intro q
      cases e : (decide (0 < n) || ns.any fun l => decide (0 < l)) with
      | false => rfl
      | true =>
        refine absurd ?_ q
        rcases Bool.or_eq_true_iff.mp e with e | e
        · exact .inl (of_decide_eq_true e)
        · obtain ⟨x, hx, e⟩ := List.any_eq_true.mp e
          exact .inr ⟨x, hx, of_decide_eq_true e⟩
    · rintro q (z | ⟨x, hx, z⟩)
      · rw [decide_eq_true z] at q; cases q
      · have : (ns.any fun l => decide (0 < l)) = true := List.any_eq_true.mpr ⟨x, hx, decide_eq_true z⟩
        rw [this, Bool.or_true] at q; cases q
theorem pw15 : ∀ i : Fin 16, (32768 : Int) / 2 ^ i.val = 2 ^ (15 - i.val) := by decide +kernel
theorem l_room_ok {ls : List Int} (hb : ∀ l ∈ ls, 0 ≤ l ∧ l ≤ 15) (hz : ls.length ≤ 1000) (M : List Cn) : m_l_room [.lst (ls.map D.int)] M = .ok (.val (.int (rmL ls))) M := by
  refine fo_ok (P := fun _ _ => True) ?_
  walk_at "f0"; unfold b_l_room
  walk_at "w"
  refine w_lcFil (fun d => match d with | .int i => decide (0 < i) | _ => false) (fun d => match d with | .int i => D.int (2 ^ (15 - i).toNat) | d => d) ?_ ?_ ?_
  · rw [List.length_map]; show _ ≤ 16777216; omega
  · intro x hx
    obtain ⟨l, hl, rfl⟩ := List.mem_map.mp hx
    have := hb l hl
    walk_at "w"
    refine ⟨rfl, ?_⟩
    refine z_if (fun h => ?_) (fun h => ?_)
    · walk_at "w"
      have e := pw15 ⟨l.toNat, by omega⟩
      have e : (32768 : Int) / 2 ^ l.toNat = 2 ^ (15 - l.toNat) := e
      rw [e, show 15 - l.toNat = (15 - l).toNat by omega]
      exact ⟨rfl, rfl⟩
    · rfl
  have e : (((ls.map D.int).filter (fun d => match d with | .int i => decide (0 < i) | _ => false)).map (fun d => match d with | .int i => D.int (2 ^ (15 - i).toNat) | d => d)) = ((ls.filter fun l => decide (0 < l)).map fun l => (2 : Int) ^ (15 - l).toNat).map D.int := by
    rw [List.filter_map, List.map_map, List.map_map]; rfl
  rw [e]
  walk_at "ds"
  walk_at "w"
  refine w_ints (ns := (ls.filter fun l => decide (0 < l)).map fun l => (2 : Int) ^ (15 - l).toNat) (d := .int (rmL ls)) rfl (intsD_map _) rfl ?_
  walk_at "w"
  exact ⟨rfl, rfl⟩
def pkD : Option (List Int × Nat) → D
  | none => .non
  | some (told, n) => .tup [.lst (told.map D.int), .int (n : Int)]
theorem l_unpacked_ok {R : List Int} (hb : ∀ b ∈ R, 0 ≤ b ∧ b ≤ 255) (hR : R.length ≤ 6000) {many : Nat} (hm : many ≤ 255) (M : List Cn) : Fo (fun a M' => a = .val (pkD (pkAt R many)) ∧ M' = M) (m_l_unpacked [.lst (R.map D.int), .int (many : Int)] M) := by
  have hbl := bitsOf_len R
  walk_at "f0"; unfold b_l_unpacked
  walk_at "w"
  refine w_lcMap (fun d => match d with | .int i => .str (bS (bitsN i.toNat 8)) | d => d) (by rw [List.length_map]; show _ ≤ 16777216; omega) ?_ ?_
  · intro x hx
    obtain ⟨b, hbm, rfl⟩ := List.mem_map.mp hx
    have h0 := hb b hbm
    walk_at "w"
    have e := l_bits_ok (x := b.toNat) (m := 8) (by omega) M
    rw [show ((b.toNat : Nat) : Int) = b by omega] at e
    refine fo_eq e ?_
    walk_at "w"
    exact ⟨rfl, rfl⟩
  rw [List.map_map, show (R.map ((fun d => match d with | .int i => .str (bS (bitsN i.toNat 8)) | d => d) ∘ D.int)) = (R.map fun b => bitsN b.toNat 8).map fun B => D.str (bS B) from by rw [List.map_map]; rfl]
  walk_at "ds"
  walk_at "w"
  have hsum := sum_lens (Bs := R.map fun b => bitsN b.toNat 8) (m := 8) (fun B hB => by
    obtain ⟨b, _, rfl⟩ := List.mem_map.mp hB
    rw [bitsN_len]; exact Nat.le_refl _)
  have hsb := strsB (R.map fun (b : Int) => bitsN b.toNat 8)
  refine ⟨_, hsb, ?_, ?_⟩
  · rw [List.length_map] at hsum
    have : (Str.ofString "").length = 0 := by decide +kernel
    rw [this, Nat.mul_zero, Nat.add_zero]
    omega
  rw [joinB, bitsR_join]
  walk_at "w"
  have hno : ∀ {V : Option (List Int × Nat)}, V = none → AI.val D.non = .val (pkD V) ∧ M = M := fun h => ⟨by rw [h]; rfl, rfl⟩
  refine z_if (fun q => ?_) (fun q => ?_)
  · walk_at "w"
    exact hno (by unfold pkAt; rw [if_pos (.inl (by omega))])
  walk_at "w"
  rw [List.length_map]
  walk_at "w"
  refine z_if (fun q1 => ?_) (fun q1 => ?_)
  · walk_at "w"
    exact hno (by unfold pkAt; rw [if_pos (.inr (by omega))])
  walk_at "w"
  refine w_slB (a := 132) (b := 136) (by show _ ≤ 16777216; omega) ?_
  rw [show 136 - 132 = 4 from rfl, lit4]
  walk_at "w"
  have hl4 : (((bitsOf R).drop 132).take 4).length = 4 := by rw [List.length_take, List.length_drop]; omega
  refine w_neS (bS_ok _) (bS_ok _) ?_
  have hz4 : decide (bS (((bitsOf R).drop 132).take 4) = bS (List.replicate 4 false)) = decide (val (((bitsOf R).drop 132).take 4) = 0) := decide_eq_decide.mpr ⟨fun z => by rw [bS_inj.mp z, val_zero], fun z => by rw [val_eq0 z, hl4]⟩
  rw [hz4]
  have hpk : pkAt R many = if val (((bitsOf R).drop 132).take 4) ≠ 0 ∨ 32768 < rmL (lsOf (bitsOf R)) ∨ (((lsOf (bitsOf R)).take 32).any fun l => decide (0 < l)) = false then none else
      match unp (lsOf (bitsOf R)) many (many + 1) [] ((bitsOf R).drop 136) with
      | none => none
      | some (made, B') => if val (B'.take (B'.length % 8)) ≠ 0 then none else some (made, R.length - B'.length / 8) := by
    unfold pkAt
    exact if_neg (by omega)
  walk_at "w"
  by_cases h0 : val (((bitsOf R).drop 132).take 4) = 0
  · rw [decide_eq_true h0]
    walk_at "w"
    refine w_lcMap (fun d => match d with | .int i => .int (val (((bitsOf R).drop (4 * i.toNat)).take 4)) | d => d) (by rw [rng_len]; decide) ?_ ?_
    · intro x hx
      obtain ⟨i, hi⟩ := List.mem_iff_getElem?.mp hx
      obtain ⟨hi2, rfl⟩ := rng_get hi
      have hi2 : i < 33 := hi2
      rw [show (0 : Int) + (i : Int) = (i : Int) by omega]
      walk_at "w"
      rw [show (4 : Int) * (i : Int) = ((4 * i : Nat) : Int) by omega, show ((4 * i : Nat) : Int) + 4 = ((4 * i + 4 : Nat) : Int) by omega]
      refine w_slB (by show _ ≤ 16777216; omega) ?_
      rw [show 4 * i + 4 - 4 * i = 4 by omega]
      walk_at "w"
      refine w_addB (by show _ ≤ 16777216; rw [List.length_replicate, List.length_take]; omega) ?_
      walk_at "w"
      refine fo_eq (l_bytes_ok (by rw [List.length_append, List.length_replicate, List.length_take]; omega) M) ?_
      rw [byte_of (n := 4) (B := ((bitsOf R).drop (4 * i)).take 4) (by rw [List.length_take, List.length_drop]; omega)]
      walk_at "w"
      refine w_ixL (l := [D.int (val (((bitsOf R).drop (4 * i)).take 4))]) (d := .int (val (((bitsOf R).drop (4 * i)).take 4))) rfl rfl rfl rfl ?_
      walk_at "w"
      exact ⟨by show _ = D.int (val (((bitsOf R).drop (4 * (i : Int).toNat)).take 4)); rw [Int.toNat_natCast], rfl⟩
    have hmp : (rng 0 (33 : Int).toNat).map (fun d => match d with | .int i => .int (val (((bitsOf R).drop (4 * i.toNat)).take 4)) | d => d) = (lsOf (bitsOf R)).map D.int := by
      unfold rng lsOf
      rw [List.map_map, List.map_map]
      refine List.map_congr_left fun i _ => ?_
      show D.int (val (((bitsOf R).drop (4 * ((0 : Int) + (i : Int)).toNat)).take 4)) = D.int (val (((bitsOf R).drop (4 * i)).take 4))
      rw [show ((0 : Int) + (i : Int)).toNat = i by omega]
    rw [hmp]
    have hlen := lsOf_len (bitsOf R)
    have hbd : ∀ l ∈ lsOf (bitsOf R), 0 ≤ l ∧ l ≤ 15 := fun l hl => by
      unfold lsOf at hl
      obtain ⟨i, hi, rfl⟩ := List.mem_map.mp hl
      rw [List.mem_range] at hi
      have hv := val_bd (((bitsOf R).drop (4 * i)).take 4)
      have hl4 : (((bitsOf R).drop (4 * i)).take 4).length = 4 := by rw [List.length_take, List.length_drop]; omega
      rw [hl4, show (2 : Int) ^ 4 = 16 from rfl] at hv
      omega
    generalize lsOf (bitsOf R) = ls at hpk hlen hbd ⊢
    walk_at "ds"
    walk_at "w"
    refine fo_eq (l_room_ok hbd (by omega) M) ?_
    walk_at "w"
    refine z_if (fun q2 => ?_) (fun q2 => ?_)
    · walk_at "w"
      exact hno (by rw [hpk, if_pos (.inr (.inl q2))])
    walk_at "w"
    rw [cutL_to _ (by decide), ← List.map_take, show (32 : Int).toNat = 32 from rfl]
    obtain ⟨mx, hmx, hmx2⟩ := max_any (ls := ls.take 32) (fun z => by have := congrArg List.length z; rw [List.length_take, hlen] at this; cases this) (fun x hx => (hbd x (List.mem_of_mem_take hx)).1)
    refine w_ints (ns := ls.take 32) (d := .int mx) rfl (intsD_map _) hmx ?_
    walk_at "w"
    refine z_if (fun q3 => ?_) (fun q3 => ?_)
    · walk_at "w"
      exact hno (by rw [hpk, if_pos (.inr (.inr (hmx2.mp q3)))])
    have hLn : Ln ls := ⟨hbd, by omega⟩
    rw [if_neg (by rw [h0]; simp only [ne_eq, not_true_eq_false, false_or, not_or]; exact ⟨q2, fun z => q3 (hmx2.mpr z)⟩)] at hpk
    walk_at "w"
    refine w_slBf (a := 136) (by show _ ≤ 16777216; omega) ?_
    walk_at "w"
    refine fo_use (l_words_ok2 hbd hlen M) ?_
    rintro _ _ ⟨rfl, l, rfl, hW, hK, hll⟩
    walk_at "w"
    refine fo_use (l_take_ok hLn hlen (l := l) (fun r hr h0 => ?_) hK (B := (bitsOf R).drop 136) (by rw [List.length_drop]; omega) (by rw [List.length_drop]; omega) hm M) ?_
    · obtain ⟨w, e1, _, e2⟩ := hW r hr h0
      rw [e1, e2 hLn]
    rintro a M' ⟨rfl, ha⟩
    cases e : unp ls many (many + 1) [] ((bitsOf R).drop 136) with
    | none =>
      rw [e] at ha hpk
      have ha : a = .val .non := ha
      subst ha
      walk_at "w"
      exact hno hpk
    | some p =>
      obtain ⟨made, B'⟩ := p
      obtain ⟨ts, _, _, _, u4, _⟩ := unp_of hLn hlen hm _ [] _ (Nat.zero_le _) e
      have u4 := congrArg List.length u4
      rw [List.length_append, List.length_drop] at u4
      rw [e] at ha hpk
      dsimp only at ha hpk
      by_cases hv : val (B'.take (B'.length % 8)) ≠ 0
      · rw [if_pos hv] at ha hpk
        subst ha
        walk_at "w"
        exact hno hpk
      · rw [if_neg hv] at ha hpk
        subst ha
        walk_at "w"
        refine w_ixT (l := [.lst (made.map D.int), .int ((((bitsOf R).drop 136).length / 8 : Nat) - (B'.length / 8 : Nat) : Int)]) (d := .lst (made.map D.int)) rfl rfl rfl rfl rfl ?_
        walk_at "w"
        refine w_ixT (l := [.lst (made.map D.int), .int ((((bitsOf R).drop 136).length / 8 : Nat) - (B'.length / 8 : Nat) : Int)]) (d := .int ((((bitsOf R).drop 136).length / 8 : Nat) - (B'.length / 8 : Nat) : Int)) rfl rfl rfl rfl rfl ?_
        walk_at "w"
        rw [hpk]
        refine ⟨?_, rfl⟩
        show _ = AI.val (.tup [.lst (made.map D.int), .int ((R.length - B'.length / 8 : Nat) : Int)])
        rw [show ((((bitsOf R).drop 136).length / 8 : Nat) : Int) - ((B'.length / 8 : Nat) : Int) + 17 = ((R.length - B'.length / 8 : Nat) : Int) by rw [List.length_drop]; omega]
  · rw [decide_eq_false h0]
    walk_at "w"
    exact hno (by rw [hpk, if_pos (.inl h0)])
def vOf (k x n m : Int) (Y : List Int) : Option (List Int × Nat) → Option (Int × Int × Int × List Int × Nat)
  | none => none
  | some (told, z) => if Y.length < z + 2 then none else if (Y.drop z).take 2 ≠ crcB ([k, x, n, m] ++ Y.take z) then none else some (k, x, n, told, z + 8)
theorem ne_marks {a b : Int} : ([a, b] : List Int) ≠ [165, 90] ↔ a ≠ 165 ∨ b ≠ 90 := by
  constructor
  · intro h
    by_cases ha : a = 165
    · refine .inr fun hb => h ?_
      rw [ha, hb]
    · exact .inl ha
  · intro h z
    injection z with z1 z2
    injection z2 with z2 _
    rcases h with h | h
    · exact h z1
    · exact h z2
theorem l_due_ok {row : List Int} (hb : ∀ b ∈ row, 0 ≤ b ∧ b ≤ 255) (hrl : row.length ≤ 6000) {q : Nat} (hq : q ≤ 100000) (M : List Cn) : Fo (fun a M' => a = .val (pcD q (pcAt (row.drop q))) ∧ M' = M) (m_l_due [.lst (row.map D.int), .int (q : Int)] M) := by
  have hbd : ∀ b ∈ row.drop q, 0 ≤ b ∧ b ≤ 255 := fun b h => hb b (List.mem_of_mem_drop h)
  have hlen : (row.drop q).length = row.length - q := List.length_drop
  have hno : ∀ {V : Option (Int × Int × Int × List Int × Nat)}, V = none → AI.val D.non = .val (pcD q V) ∧ M = M := fun h => ⟨by rw [h]; rfl, rfl⟩
  walk_at "f0"; unfold b_l_due
  walk_at "w"
  rw [cutL_from _ (by omega), ← List.map_drop, show ((q : Int) + 2).toNat = q + 2 by omega]
  walk_at "w"
  rw [cutL_part _ (by omega) (by omega), Int.toNat_natCast, show ((q : Int) + 2).toNat - q = 2 by omega, ← List.map_drop, ← List.map_take]
  refine w_ne (_root_.Y.eqOf_ints (ns := (row.drop q).take 2) (ms := [165, 90]) rfl rfl (.inl rfl) (.inl rfl)) ?_
  by_cases h6 : 6 ≤ (row.drop q).length
  · obtain ⟨a, b, k, x, n, m, Y, e⟩ := cons6 h6
    have hrow2 : row.drop (q + 2) = k :: x :: n :: m :: Y := by rw [← List.drop_drop, e]; rfl
    have hk := hbd k (by rw [e]; simp)
    have hx := hbd x (by rw [e]; simp)
    have hn := hbd n (by rw [e]; simp)
    have hm := hbd m (by rw [e]; simp)
    have hYb : ∀ y ∈ Y, 0 ≤ y ∧ y ≤ 255 := fun y hy => hbd y (by rw [e]; simp [hy])
    have hYl : row.length - q = Y.length + 6 := by rw [← hlen, e]; rfl
    have hpc : pcAt (row.drop q) = (if a ≠ 165 ∨ b ≠ 90 ∨ 254 < x ∨ 254 < n then none else
      match bdAt k Y m with
      | none => none
      | some (told, z) => if (Y.drop z).take 2 ≠ crcB ([k, x, n, m] ++ Y.take z) then none else some (k, x, n, told, z + 8)) := by rw [e]; rfl
    generalize hV : pcAt (row.drop q) = V at hpc hno ⊢
    rw [e, hrow2, show (a :: b :: k :: x :: n :: m :: Y).take 2 = [a, b] from rfl]
    by_cases hab : ([a, b] : List Int) = [165, 90]
    · have hab2 : ¬ (a ≠ 165 ∨ b ≠ 90) := fun z => ne_marks.mpr z hab
      rw [decide_eq_true hab]
      walk_at "w"
      rw [List.length_map, show (k :: x :: n :: m :: Y).length = Y.length + 4 from rfl]
      walk_at "w"
      refine w_ixI (ns := k :: x :: n :: m :: Y) rfl rfl rfl (by decide) (by show (0 : Int) < ((Y.length + 4 : Nat) : Int); omega) ?_
      rw [show (k :: x :: n :: m :: Y).getD (0 : Int).toNat 0 = k from rfl]
      walk_at "w"
      obtain ⟨m', rfl⟩ : ∃ m' : Nat, m = (m' : Int) := ⟨m.toNat, by omega⟩
      refine z_if (fun q1 => ?_) (fun q1 => ?_)
      · walk_at "w"
        refine hno ?_
        rw [hpc]
        split
        · rfl
        · unfold bdAt
          rw [if_neg (by omega), if_pos (.inl (by omega))]
      walk_at "w"
      refine w_ixI (ns := k :: x :: n :: (m' : Int) :: Y) rfl rfl rfl (by decide) (by show (1 : Int) < ((Y.length + 4 : Nat) : Int); omega) ?_
      rw [show (k :: x :: n :: (m' : Int) :: Y).getD (1 : Int).toNat 0 = x from rfl]
      walk_at "w"
      refine z_if (fun q2 => ?_) (fun q2 => ?_)
      · walk_at "w"
        exact hno (by rw [hpc, if_pos (.inr (.inr (.inl q2)))])
      walk_at "w"
      refine w_ixI (ns := k :: x :: n :: (m' : Int) :: Y) rfl rfl rfl (by decide) (by show (2 : Int) < ((Y.length + 4 : Nat) : Int); omega) ?_
      rw [show (k :: x :: n :: (m' : Int) :: Y).getD (2 : Int).toNat 0 = n from rfl]
      walk_at "w"
      refine z_if (fun q3 => ?_) (fun q3 => ?_)
      · walk_at "w"
        exact hno (by rw [hpc, if_pos (.inr (.inr (.inr q3)))])
      rw [if_neg (by omega)] at hpc
      walk_at "w"
      have h3 : (k :: x :: n :: (m' : Int) :: Y).getD (3 : Int).toNat 0 = (m' : Int) := rfl
      refine w_ixI (ns := k :: x :: n :: (m' : Int) :: Y) rfl rfl rfl (by decide) (by show (3 : Int) < ((Y.length + 4 : Nat) : Int); omega) ?_
      rw [h3]
      walk_at "w"
      refine w_ixI (ns := k :: x :: n :: (m' : Int) :: Y) rfl rfl rfl (by decide) (by show (3 : Int) < ((Y.length + 4 : Nat) : Int); omega) ?_
      rw [h3, cutL_part _ (by decide) (by omega), show ((4 : Int) + (m' : Int)).toNat - (4 : Int).toNat = m' by omega, ← List.map_drop, ← List.map_take, show (k :: x :: n :: (m' : Int) :: Y).drop (4 : Int).toNat = Y from rfl]
      walk_at "wi"
      refine w_set1 3 (fun d => ∃ F, d = pkD F ∧ (k = 1 → F = pkAt Y m') ∧ (k ≠ 1 → F = some (Y.take m', m'))) ?_ ?_
      · walk_at "w"
        refine w_ixI (ns := k :: x :: n :: (m' : Int) :: Y) rfl rfl rfl (by decide) (by show (0 : Int) < ((Y.length + 4 : Nat) : Int); omega) ?_
        rw [show (k :: x :: n :: (m' : Int) :: Y).getD (0 : Int).toNat 0 = k from rfl]
        walk_at "w"
        refine z_if (fun q4 => ?_) (fun q4 => ?_)
        · walk_at "w"
          rw [cutL_from _ (by decide), ← List.map_drop, show (k :: x :: n :: (m' : Int) :: Y).drop (4 : Int).toNat = Y from rfl]
          walk_at "w"
          refine w_ixI (ns := k :: x :: n :: (m' : Int) :: Y) rfl rfl rfl (by decide) (by show (3 : Int) < ((Y.length + 4 : Nat) : Int); omega) ?_
          rw [h3]
          walk_at "w"
          refine fo_use (l_unpacked_ok hYb (by omega) (many := m') (by omega) M) ?_
          rintro _ _ ⟨rfl, rfl⟩
          walk_at "w"
          exact ⟨_, ⟨_, rfl, fun _ => rfl, fun z => absurd q4 z⟩, rfl⟩
        · walk_at "w"
          exact ⟨_, ⟨some (Y.take m', m'), rfl, fun z => absurd z q4, fun _ => rfl⟩, rfl⟩
      rintro d ⟨F, rfl, hF1, hF0⟩
      have hVF : V = vOf k x n (m' : Int) Y F := by
        have hshort : ∀ z : Nat, Y.length < z + 2 → (Y.drop z).take 2 ≠ crcB ([k, x, n, (m' : Int)] ++ Y.take z) := fun z hz e => by
          have e := congrArg List.length e
          rw [crcB_len, List.length_take, List.length_drop] at e
          omega
        by_cases hk1 : k = 1
        · rw [hF1 hk1, hpc]
          unfold bdAt
          rw [if_pos hk1, Int.toNat_natCast]
          cases pkAt Y m' with
          | none => rfl
          | some tz =>
            obtain ⟨told, z⟩ := tz
            dsimp only
            unfold vOf
            dsimp only
            by_cases hz : Y.length < z + 2
            · rw [if_pos (hshort z hz), if_pos hz]
            · rw [if_neg hz]
        · rw [hF0 hk1, hpc]
          unfold bdAt
          rw [if_neg hk1, Int.toNat_natCast]
          unfold vOf
          dsimp only
          by_cases hz : Y.length < m' + 2
          · rw [if_pos hz]
            split
            · rfl
            · rename_i e1
              split at e1
              · cases e1
              · cases e1
                rw [if_pos (hshort m' hz)]
          · rw [if_neg hz, if_neg (by omega)]
      walk_at "ds"
      cases F with
      | none =>
        rw [show pkD none = D.non from rfl]
        walk_at "w"
        exact hno hVF
      | some tz =>
        obtain ⟨told, z⟩ := tz
        unfold vOf at hVF
        dsimp only at hVF
        rw [show pkD (some (told, z)) = .tup [.lst (told.map D.int), .int (z : Int)] from rfl]
        walk_at "w"
        refine w_ixT (l := [.lst (told.map D.int), .int (z : Int)]) (d := .int (z : Int)) rfl rfl rfl rfl rfl ?_
        walk_at "w"
        rw [List.length_map, show (k :: x :: n :: (m' : Int) :: Y).length = Y.length + 4 from rfl]
        walk_at "w"
        refine z_if (fun q5 => ?_) (fun q5 => ?_)
        · walk_at "w"
          exact hno (by rw [hVF, if_pos (by omega)])
        rw [if_neg (by omega)] at hVF
        walk_at "w"
        refine w_ixT (l := [.lst (told.map D.int), .int (z : Int)]) (d := .int (z : Int)) rfl rfl rfl rfl rfl ?_
        walk_at "w"
        refine w_ixT (l := [.lst (told.map D.int), .int (z : Int)]) (d := .int (z : Int)) rfl rfl rfl rfl rfl ?_
        walk_at "w"
        rw [cutL_part _ (by omega) (by omega), show ((6 : Int) + (z : Int)).toNat - ((4 : Int) + (z : Int)).toNat = 2 by omega, ← List.map_drop, ← List.map_take, show ((4 : Int) + (z : Int)).toNat = z + 4 by omega, show (k :: x :: n :: (m' : Int) :: Y).drop (z + 4) = Y.drop z from rfl]
        walk_at "w"
        refine w_ixT (l := [.lst (told.map D.int), .int (z : Int)]) (d := .int (z : Int)) rfl rfl rfl rfl rfl ?_
        walk_at "w"
        rw [cutL_to _ (by omega), ← List.map_take, show ((4 : Int) + (z : Int)).toNat = z + 4 by omega, show (k :: x :: n :: (m' : Int) :: Y).take (z + 4) = [k, x, n, (m' : Int)] ++ Y.take z from rfl]
        walk_at "w"
        have hbt : Z.Byt ([k, x, n, (m' : Int)] ++ Y.take z) := fun y hy => by
          rcases List.mem_append.mp hy with hy | hy
          · simp at hy; rcases hy with rfl | rfl | rfl | rfl <;> omega
          · have := hYb y (List.mem_of_mem_take hy); omega
        refine fo_eq (l_sum_ok hbt _) ?_
        walk_at "w"
        refine w_ne (_root_.Y.eqOf_ints (ns := (Y.drop z).take 2) (ms := crcB ([k, x, n, (m' : Int)] ++ Y.take z)) rfl rfl (.inl rfl) (.inl rfl)) ?_
        by_cases hcr : (Y.drop z).take 2 = crcB ([k, x, n, (m' : Int)] ++ Y.take z)
        · rw [if_neg (fun hh => hh hcr)] at hVF
          rw [decide_eq_true hcr]
          walk_at "w"
          refine w_ixI (ns := k :: x :: n :: (m' : Int) :: Y) rfl rfl rfl (by decide) (by show (0 : Int) < ((Y.length + 4 : Nat) : Int); omega) ?_
          rw [show (k :: x :: n :: (m' : Int) :: Y).getD (0 : Int).toNat 0 = k from rfl]
          walk_at "w"
          refine w_ixI (ns := k :: x :: n :: (m' : Int) :: Y) rfl rfl rfl (by decide) (by show (1 : Int) < ((Y.length + 4 : Nat) : Int); omega) ?_
          rw [show (k :: x :: n :: (m' : Int) :: Y).getD (1 : Int).toNat 0 = x from rfl]
          walk_at "w"
          refine w_ixI (ns := k :: x :: n :: (m' : Int) :: Y) rfl rfl rfl (by decide) (by show (2 : Int) < ((Y.length + 4 : Nat) : Int); omega) ?_
          rw [show (k :: x :: n :: (m' : Int) :: Y).getD (2 : Int).toNat 0 = n from rfl]
          walk_at "w"
          refine w_ixT (l := [.lst (told.map D.int), .int (z : Int)]) (d := .lst (told.map D.int)) rfl rfl rfl rfl rfl ?_
          walk_at "w"
          refine w_ixT (l := [.lst (told.map D.int), .int (z : Int)]) (d := .int (z : Int)) rfl rfl rfl rfl rfl ?_
          walk_at "w"
          rw [hVF]
          refine ⟨?_, rfl⟩
          show AI.val (D.tup [.int k, .int x, .int n, .lst (told.map D.int), _]) = AI.val (D.tup [.int k, .int x, .int n, .lst (told.map D.int), .int ((q + (z + 8) : Nat) : Int)])
          rw [show (q : Int) + 8 + (z : Int) = ((q + (z + 8) : Nat) : Int) by omega]
        · rw [if_pos hcr] at hVF
          rw [decide_eq_false hcr]
          walk_at "w"
          exact hno hVF
    · rw [decide_eq_false hab]
      walk_at "w"
      exact hno (by rw [hpc, if_pos]; rcases ne_marks.mp hab with z | z; exact .inl z; exact .inr (.inl z))
  · rw [pc_short (by omega)]
    have hl2 : (row.drop (q + 2)).length < 4 ∨ (row.drop q).length < 2 := by rw [List.length_drop]; omega
    by_cases hab : (row.drop q).take 2 = [165, 90]
    · have hl := congrArg List.length hab
      rw [List.length_take] at hl
      have hl : min 2 (row.drop q).length = 2 := hl
      rw [decide_eq_true hab]
      walk_at "w"
      rw [List.length_map]
      walk_at "w"
      exact hno rfl
    · rw [decide_eq_false hab]
      walk_at "w"
      exact hno rfl
structure LnB (ls : List Int) : Prop where
  len : ls.length = 33
  bd : ∀ l ∈ ls, 0 ≤ l ∧ l ≤ 15
theorem LnB.at {ls : List Int} (h : LnB ls) (i : Nat) : 0 ≤ ls.getD i 0 ∧ ls.getD i 0 ≤ 15 := by
  by_cases hi : i < ls.length
  · rw [List.getD_eq_getElem?_getD, List.getElem?_eq_getElem hi]
    exact h.bd _ (List.getElem_mem hi)
  · rw [List.getD_eq_getElem?_getD, List.getElem?_eq_none_iff.mpr (by omega)]
    decide
theorem LnB.set {ls : List Int} (h : LnB ls) (i : Nat) {v : Int} (hv : 0 ≤ v ∧ v ≤ 15) : LnB (ls.set i v) :=
  ⟨by rw [List.length_set]; exact h.len, fun l hl => by
    rcases List.mem_or_eq_of_mem_set hl with hl | rfl
    · exact h.bd l hl
    · exact hv⟩
theorem LnB.zero : LnB (List.replicate 33 0) := ⟨List.length_replicate, fun l hl => by rw [(List.mem_replicate.mp hl).2]; decide⟩
theorem getD_set {ls : List Int} {i j : Nat} {v : Int} (hi : i < ls.length) : (ls.set i v).getD j 0 = if j = i then v else ls.getD j 0 := by
  rw [List.getD_eq_getElem?_getD, List.getD_eq_getElem?_getD, List.getElem?_set]
  by_cases h : i = j
  · subst h
    rw [if_pos rfl, if_pos hi, if_pos rfl]; rfl
  · rw [if_neg h, if_neg (fun z => h z.symm)]
theorem any_at {ls : List Int} {n : Nat} (h : (ls.take n).any (fun l => decide (0 < l)) = true) : ∃ s, s < n ∧ 0 < ls.getD s 0 := by
  obtain ⟨x, hx, e⟩ := List.any_eq_true.mp h
  obtain ⟨i, hi⟩ := List.mem_iff_getElem?.mp hx
  rw [List.getElem?_take] at hi
  split at hi
  · rename_i hin
    exact ⟨i, hin, by rw [List.getD_eq_getElem?_getD, hi]; exact of_decide_eq_true e⟩
  · cases hi
theorem l_lengths_ok {M : List Cn} {k : Nat} (hd : Drw M k) : Fo (fun a M' => Kpt M M' k ∧ ∃ ls : List Int, a = .new (.lst (ls.map D.int)) ∧ LnB ls ∧ ∃ s : Nat, s < 32 ∧ 0 < ls.getD s 0) (m_l_lengths [.cid k] M) := by
  have pw : ∀ i : Fin 16, (0 : Int) ≤ 32768 / 2 ^ i.val := by decide +kernel
  walk_at "f0"; unfold b_l_lengths
  walk_at "w"
  refine w_lcMap (fun _ => D.int 0) (by rw [rng_len]; decide) ?_ ?_
  · intro x hx
    walk_at "w"
    exact ⟨rfl, rfl⟩
  have e0 : (rng 0 (33 : Int).toNat).map (fun _ => D.int 0) = (List.replicate 33 (0 : Int)).map D.int := rfl
  rw [e0]
  walk_at "ds"
  walk_at "w"
  refine fo_use (next_ok hd (z := 33) (by decide) (by decide)) ?_
  rintro _ M1 ⟨x1, rfl, x10, x11, k1⟩
  walk_at "w"
  refine w_forN (fun i s => ∃ (ls : List Int) (M' : List Cn) (e2 e3 e4 : Option Ent), s = ⟨[some (.fz (.cid k)), some (.ow (.lst (ls.map D.int))), e2, e3, e4], M'⟩ ∧ LnB ls ∧ Kpt M M' k) ⟨_, _, _, _, _, rfl, .zero, k1⟩ ?_ ?_
  · rintro i y s hi ⟨ls, M2, e2, e3, e4, rfl, hl, k2⟩
    walk_at "w"
    refine fo_use (next_ok k2.dr (z := 33) (by decide) (by decide)) ?_
    rintro _ M3 ⟨x2, rfl, x20, x21, k3⟩
    walk_at "w"
    refine fo_use (next_ok k3.dr (z := 4) (by decide) (by decide)) ?_
    rintro _ M4 ⟨x3, rfl, x30, x31, k4⟩
    walk_at "w"
    obtain ⟨sy, hsy, hsy2⟩ : ∃ sy : Nat, sy < 33 ∧ atI [D.int 32, D.int x2] (if decide (0 < x3) = true then 1 else 0) = some (.int (sy : Int)) := by
      by_cases h : 0 < x3
      · refine ⟨x2.toNat, by omega, ?_⟩
        rw [decide_eq_true h, if_pos rfl, show ((x2.toNat : Nat) : Int) = x2 by omega]; rfl
      · refine ⟨32, by omega, ?_⟩
        rw [decide_eq_false h]; rfl
    refine w_ixL (l := [D.int 32, D.int x2]) rfl rfl rfl hsy2 ?_
    walk_at "w"
    refine fo_use (next_ok k4.dr (z := 15) (by decide) (by decide)) ?_
    rintro _ M5 ⟨x4, rfl, x40, x41, k5⟩
    walk_at "w"
    refine fo_use (next_ok k5.dr (z := 4) (by decide) (by decide)) ?_
    rintro _ M6 ⟨x5, rfl, x50, x51, k6⟩
    walk_at "w"
    refine fo_use (next_ok k6.dr (z := 2) (by decide) (by decide)) ?_
    rintro _ M7 ⟨x6, rfl, x60, x61, k7⟩
    walk_at "w"
    obtain ⟨ln, hln0, hln1, hln2⟩ : ∃ ln : Int, 1 ≤ ln ∧ ln ≤ 15 ∧ atI [D.int (1 + x4), D.int (2 + x5)] x6 = some (.int ln) := by
      by_cases h : x6 = 0
      · exact ⟨1 + x4, by omega, by omega, by rw [h]; rfl⟩
      · exact ⟨2 + x5, by omega, by omega, by rw [show x6 = 1 by omega]; rfl⟩
    refine w_ixL (l := [D.int (1 + x4), D.int (2 + x5)]) rfl rfl rfl hln2 ?_
    have kk := k2.trans (k3.trans (k4.trans (k5.trans (k6.trans k7))))
    have hlen := hl.len
    walk_at "w"
    refine w_ixI (ns := ls) rfl rfl rfl (by omega) (by omega) ?_
    walk_at "w"
    refine z_if (fun q => ?_) (fun q => ?_)
    · walk_at "w"
      refine ⟨_, _, [], rfl, by show (D.noIdL (ls.map D.int) && true) = true; rw [noIdL_ints]; rfl, l_room_ok hl.bd (by omega) [], rfl, ?_⟩
      walk_at "w"
      refine z_if (fun q2 => ?_) (fun q2 => ?_)
      · walk_at "w"
        refine so_setI (ns := ls) rfl (by omega) (by omega) ?_
        walk_at "ds"
        walk_at "w"
        exact ⟨_, _, _, _, _, rfl, hl.set _ ⟨by omega, hln1⟩, kk⟩
      · walk_at "w"
        exact ⟨_, _, _, _, _, rfl, hl, kk⟩
    · walk_at "w"
      exact ⟨_, _, _, _, _, rfl, hl, kk⟩
  · rintro s ⟨ls, M2, e2, e3, e4, rfl, hl, k2⟩
    have hlen := hl.len
    walk_at "w"
    rw [cutL_to _ (by decide), ← List.map_take, show (32 : Int).toNat = 32 from rfl]
    obtain ⟨mx, hmx, hmx2⟩ := max_any (ls := ls.take 32) (fun z => by have := congrArg List.length z; rw [List.length_take, hlen] at this; cases this) (fun x hx => (hl.bd x (List.mem_of_mem_take hx)).1)
    refine w_ints (ns := ls.take 32) (d := .int mx) rfl (intsD_map _) hmx ?_
    walk_at "w"
    refine z_if (fun q3 => ?_) (fun q3 => ?_)
    · walk_at "w"
      refine fo_use (next_ok k2.dr (z := 15) (by decide) (by decide)) ?_
      rintro _ M3 ⟨x2, rfl, x20, x21, k3⟩
      walk_at "w"
      refine fo_use (next_ok k3.dr (z := 32) (by decide) (by decide)) ?_
      rintro _ M4 ⟨x3, rfl, x30, x31, k4⟩
      have kk := k2.trans (k3.trans k4)
      walk_at "w"
      refine so_setI (ns := ls) rfl (by omega) (by omega) ?_
      have hl2 := hl.set x3.toNat (v := 1 + x2) ⟨by omega, by omega⟩
      have hp2 : 0 < (ls.set x3.toNat (1 + x2)).getD x3.toNat 0 := by rw [getD_set (by omega), if_pos rfl]; omega
      generalize ls.set x3.toNat (1 + x2) = ls2 at hl2 hp2 ⊢
      have hlen2 := hl2.len
      walk_at "ds"
      walk_at "w"
      refine ⟨_, _, [], rfl, by show (D.noIdL (ls2.map D.int) && true) = true; rw [noIdL_ints]; rfl, l_room_ok hl2.bd (by omega) [], rfl, ?_⟩
      walk_at "w"
      refine z_if (fun q2 => ?_) (fun q2 => ?_)
      · walk_at "w"
        refine so_setI (ns := ls2) rfl (by omega) (by omega) ?_
        walk_at "ds"
        walk_at "w"
        exact ⟨kk, _, rfl, hl2.set _ ⟨by omega, by omega⟩, x3.toNat, by omega, by rw [getD_set (by show 32 < ls2.length; omega), if_neg (by show ¬ x3.toNat = 32; omega)]; exact hp2⟩
      · walk_at "w"
        exact ⟨kk, _, rfl, hl2, x3.toNat, by omega, hp2⟩
    · walk_at "w"
      refine ⟨k2, _, rfl, hl, any_at ?_⟩
      cases e : (ls.take 32).any fun l => decide (0 < l) with
      | true => rfl
      | false => exact absurd (hmx2.mpr e) q3
theorem l_overfull_ok {M : List Cn} {k : Nat} (hd : Drw M k) : Fo (fun a M' => Kpt M M' k ∧ ∃ ls : List Int, a = .new (.lst (ls.map D.int)) ∧ LnB ls ∧ ∃ s : Nat, s < 32 ∧ ls.getD s 0 = 1) (m_l_overfull [.cid k] M) := by
  walk_at "f0"; unfold b_l_overfull
  walk_at "w"
  refine w_lcMap (fun _ => D.int 0) (by rw [rng_len]; decide) ?_ ?_
  · intro x hx
    walk_at "w"
    exact ⟨rfl, rfl⟩
  have e0 : (rng 0 (33 : Int).toNat).map (fun _ => D.int 0) = (List.replicate 33 (0 : Int)).map D.int := rfl
  have hl := LnB.zero
  rw [e0]
  generalize List.replicate 33 (0 : Int) = l0 at hl ⊢
  walk_at "ds"
  walk_at "w"
  refine fo_use (next_ok hd (z := 20) (by decide) (by decide)) ?_
  rintro _ M1 ⟨x1, rfl, x10, x11, k1⟩
  walk_at "w"
  have hlen := hl.len
  refine so_setI (ns := l0) rfl (by omega) (by omega) ?_
  have hl1 := hl.set x1.toNat (v := 1) (by decide)
  have hp1 : (l0.set x1.toNat 1).getD x1.toNat 0 = 1 := by rw [getD_set (by omega), if_pos rfl]
  generalize l0.set x1.toNat 1 = l1 at hl1 hp1 ⊢
  have hlen := hl1.len
  walk_at "ds"
  walk_at "w"
  refine fo_use (next_ok k1.dr (z := 10) (by decide) (by decide)) ?_
  rintro _ M2 ⟨x2, rfl, x20, x21, k2⟩
  walk_at "w"
  refine so_setI (ns := l1) rfl (by omega) (by omega) ?_
  have hl2 := hl1.set (x1 + 1 + x2).toNat (v := 1) (by decide)
  have hp2 : (l1.set (x1 + 1 + x2).toNat 1).getD x1.toNat 0 = 1 := by rw [getD_set (by omega)]; split; rfl; exact hp1
  generalize l1.set (x1 + 1 + x2).toNat 1 = l2 at hl2 hp2 ⊢
  have hlen := hl2.len
  walk_at "ds"
  walk_at "w"
  refine fo_use (next_ok k2.dr (z := 14) (by decide) (by decide)) ?_
  rintro _ M3 ⟨x3, rfl, x30, x31, k3⟩
  walk_at "w"
  refine fo_use (next_ok k3.dr (z := 2) (by decide) (by decide)) ?_
  rintro _ M4 ⟨x4, rfl, x40, x41, k4⟩
  walk_at "w"
  refine so_setI (ns := l2) rfl (by omega) (by omega) ?_
  walk_at "ds"
  walk_at "w"
  exact ⟨k1.trans (k2.trans (k3.trans k4)), _, rfl, hl2.set _ ⟨by omega, by omega⟩, x1.toNat, by omega, by rw [getD_set (by omega), if_neg (by omega)]; exact hp2⟩
theorem lc_filJ {β : Type} {ws : List Nat} {g : Tg} {c : Mo Bool} {e : Mo D} {ck : Option (Nat × Cn)} {s : Stt} {ys : List β} {P : List D → Stt → Prop} (g0 : β → D) (p : β → Bool) (f : β → D) (hk : chk ck s) (hz : ys.length ≤ sizeLine) (h : ∀ y ∈ ys, So (fun s1 => Wo (fun b s2 => b = p y ∧ if b = true then Wo (fun d s3 => d = f y ∧ wipeS ws s3 = s) Xf (e s2) else wipeS ws s2 = s) Xf (c s1)) (g (g0 y) s)) (k : P ((ys.filter p).map f) s) : ∃ l s2, lcN ws g c e ck (ys.map g0) [] s = .ok l s2 ∧ P l s2 := by
  refine ⟨(ys.filter p).map f, s, ?_, k⟩
  have gen : ∀ (zs : List β) (acc : List D), acc.length + zs.length ≤ sizeLine → (∀ y ∈ zs, y ∈ ys) → lcN ws g c e ck (zs.map g0) acc s = .ok (acc ++ (zs.filter p).map f) s := by
    intro zs
    induction zs with
    | nil => intro acc _ _; rw [List.map_nil]; unfold lcN; rw [if_pos hk]; simp
    | cons y zs ih =>
      intro acc hl hy
      have hh := h y (hy y List.mem_cons_self)
      have hl' : acc.length + (zs.length + 1) ≤ sizeLine := hl
      rw [List.map_cons]
      unfold lcN
      rw [if_pos hk]
      cases q : g (g0 y) s with
      | none => rw [q] at hh; exact False.elim hh
      | some s1 =>
        rw [q] at hh
        have hh : Wo (fun b s2 => b = p y ∧ if b = true then Wo (fun d s3 => d = f y ∧ wipeS ws s3 = s) Xf (e s2) else wipeS ws s2 = s) Xf (c s1) := hh
        show (match c s1 with | .ok b s2 => if b = true then (match e s2 with | .ok d s3 => if acc.length < sizeLine then lcN ws g c e ck (zs.map g0) (acc ++ [d]) (wipeS ws s3) else .no | _ => .no) else lcN ws g c e ck (zs.map g0) acc (wipeS ws s2) | _ => .no) = _
        cases hc : c s1 with
        | no => rw [hc] at hh; exact False.elim hh
        | er x s2 => rw [hc] at hh; exact False.elim hh
        | ok b s2 =>
          rw [hc] at hh
          obtain ⟨hb, hh⟩ := hh
          show (if b = true then (match e s2 with | .ok d s3 => if acc.length < sizeLine then lcN ws g c e ck (zs.map g0) (acc ++ [d]) (wipeS ws s3) else .no | _ => .no) else lcN ws g c e ck (zs.map g0) acc (wipeS ws s2)) = _
          cases b with
          | false =>
            rw [if_neg Bool.false_ne_true] at hh ⊢
            rw [hh, ih acc (by omega) (fun z hz => hy z (List.mem_cons_of_mem _ hz)), List.filter_cons_of_neg (by rw [← hb]; exact Bool.false_ne_true)]
          | true =>
            rw [if_pos rfl] at hh ⊢
            cases he : e s2 with
            | no => rw [he] at hh; exact False.elim hh
            | er x s2 => rw [he] at hh; exact False.elim hh
            | ok d s3 =>
              rw [he] at hh
              obtain ⟨hd, hw⟩ := hh
              show (if acc.length < sizeLine then lcN ws g c e ck (zs.map g0) (acc ++ [d]) (wipeS ws s3) else .no) = _
              rw [if_pos (by omega), hw, ih (acc ++ [d]) (by rw [List.length_append]; show acc.length + 1 + zs.length ≤ _; omega) (fun z hz => hy z (List.mem_cons_of_mem _ hz)), List.filter_cons_of_pos (by rw [← hb]), hd, List.append_assoc]; rfl
  have := gen ys [] (by show 0 + ys.length ≤ _; omega) (fun _ h => h)
  rw [List.nil_append] at this
  exact this
def kI : Key → Int
  | .inl i => i
  | .inr _ => 0
def lS : D → Nat
  | .str x => x.length
  | _ => 0
theorem mem_pu {l : List (Key × D)} {k : Key} {v : D} {p : Key × D} (h : p ∈ pu l k v) : p ∈ l ∨ p = (k, v) := by
  unfold pu at h
  split at h
  · obtain ⟨q, hq, rfl⟩ := List.mem_map.mp h
    split
    · rename_i e
      exact .inr (by rw [e])
    · exact .inl hq
  · rcases List.mem_append.mp h with h | h
    · exact .inl h
    · exact .inr (List.mem_singleton.mp h)
theorem mem_mgA : ∀ (l acc : List (Key × D)) {p : Key × D}, p ∈ l.foldl (fun a p => pu a p.1 p.2) acc → p ∈ acc ∨ p ∈ l
  | [], _, _, h => .inl h
  | q :: l, acc, p, h => by
    rcases mem_mgA l (pu acc q.1 q.2) h with h | h
    · rcases mem_pu h with h | h
      · exact .inl h
      · exact .inr (by rw [h]; exact List.mem_cons_self)
    · exact .inr (List.mem_cons_of_mem _ h)
theorem mem_mg {l : List (Key × D)} {p : Key × D} (h : p ∈ mgD l) : p ∈ l := by
  rcases mem_mgA l [] h with h | h
  · cases h
  · exact h
theorem vl_some {l : List (Key × D)} {k : Key} {d : D} (h : vl l k = some d) : (k, d) ∈ l := by
  obtain ⟨i, p, h1, h2, h3⟩ := vl_key h
  have := List.mem_of_getElem? h1
  rw [← h2, ← h3]; exact this
theorem mgA_has (k : Key) : ∀ (l acc : List (Key × D)), ((vl acc k).isSome = true ∨ ∃ p ∈ l, p.1 = k) → (vl (l.foldl (fun a p => pu a p.1 p.2) acc) k).isSome = true
  | [], _, h => by
    rcases h with h | ⟨p, hp, _⟩
    · exact h
    · cases hp
  | q :: l, acc, h => by
    refine mgA_has k l (pu acc q.1 q.2) ?_
    by_cases e : k = q.1
    · exact .inl (by rw [vl_pu, if_pos e]; rfl)
    · rcases h with h | ⟨p, hp, e2⟩
      · exact .inl (by rw [vl_pu, if_neg e]; exact h)
      · rcases List.mem_cons.mp hp with rfl | hp
        · exact absurd e2.symm e
        · exact .inr ⟨p, hp, e2⟩
theorem mg_has {l : List (Key × D)} {p : Key × D} (h : p ∈ l) : ∃ q ∈ mgD l, q.1 = p.1 := by
  have := mgA_has p.1 l [] (.inr ⟨p, h, rfl⟩)
  obtain ⟨d, hd⟩ := Option.isSome_iff_exists.mp this
  exact ⟨_, vl_some hd, rfl⟩
theorem vl_has {l : List (Key × D)} {p : Key × D} (h : p ∈ l) : ∃ d, vl l p.1 = some d := by
  unfold vl
  have : (l.find? fun q => decide (q.1 = p.1)).isSome = true := by rw [List.find?_isSome]; exact ⟨p, h, decide_eq_true rfl⟩
  obtain ⟨q, hq⟩ := Option.isSome_iff_exists.mp this
  exact ⟨q.2, by rw [hq]; rfl⟩
structure WK (l : List (Key × D)) : Prop where
  at_ : ∀ p ∈ l, ∃ (r : Nat) (w : List Bool), r < 33 ∧ p.1 = .inl (r : Int) ∧ p.2 = .str (bS w) ∧ w.length ≤ 15
  has : ∃ p ∈ l, ∃ r : Nat, r < 32 ∧ p.1 = .inl (r : Int)
  len : l.length ≤ 600
theorem mg_len (l : List (Key × D)) : (mgD l).length ≤ l.length := by
  have gen : ∀ (l acc : List (Key × D)), (l.foldl (fun a p => pu a p.1 p.2) acc).length ≤ acc.length + l.length := by
    intro l
    induction l with
    | nil => intro acc; exact Nat.le_refl _
    | cons q l ih =>
      intro acc
      have h1 := ih (pu acc q.1 q.2)
      have h2 := puK_len acc q.1 q.2
      rw [List.foldl_cons, List.length_cons]
      omega
  have := gen l []
  rw [List.length_nil, Nat.zero_add] at this
  exact this
theorem KeyL.wk {ls : List Int} (hl : LnB ls) {l : List (Key × D)} (h : KeyL ls l) (hz : l.length ≤ 500) (hh : ∃ s : Nat, s < 32 ∧ ∃ d, vl l (.inl (s : Int)) = some d) : WK l := by
  refine ⟨fun p hp => ?_, ?_, by omega⟩
  · obtain ⟨r, w, h1, h2, h3, h4, h5, _⟩ := h p hp
    have := hl.at r
    exact ⟨r, w, h1, h3, h4, by omega⟩
  · obtain ⟨s, hs, d, hd⟩ := hh
    exact ⟨_, vl_some hd, s, hs, rfl⟩
theorem kPairs_l : ∀ {l : List (Key × D)}, (∀ p ∈ l, ∃ r : Nat, p.1 = .inl (r : Int)) → kPairs (l.map fun p => .tup [kD p.1, p.2]) = some l
  | [], _ => rfl
  | p :: l, h => by
    obtain ⟨r, hr⟩ := h p List.mem_cons_self
    show (kPair _).bind (fun q => (kPairs (l.map _)).map (q :: ·)) = _
    rw [kPairs_l (fun q hq => h q (List.mem_cons_of_mem _ hq))]
    obtain ⟨k, d⟩ := p
    have hr : k = .inl (r : Int) := hr
    subst hr
    rfl
theorem WK.one {l : List (Key × D)} (h : ∀ p ∈ l, ∃ (r : Nat) (w : List Bool), r < 33 ∧ p.1 = .inl (r : Int) ∧ p.2 = .str (bS w) ∧ w.length ≤ 15) (hz : l.length ≤ 600) (hh : ∃ p ∈ l, (∃ r : Nat, r < 32 ∧ p.1 = .inl (r : Int)) ∧ lS p.2 = 1) : WK (mgD (l.filter fun p => decide (lS p.2 = 1))) := by
  refine ⟨fun p hp => h p (List.mem_filter.mp (mem_mg hp)).1, ?_, ?_⟩
  · obtain ⟨p, hp, ⟨r, hr, e⟩, e2⟩ := hh
    obtain ⟨q, hq, e3⟩ := mg_has (l := l.filter fun p => decide (lS p.2 = 1)) (List.mem_filter.mpr ⟨hp, decide_eq_true e2⟩)
    exact ⟨q, hq, r, hr, e3.trans e⟩
  · exact Nat.le_trans (mg_len _) (Nat.le_trans (List.length_filter_le _ _) hz)
/-- the words' names below 32 -/
theorem wk_known {l : List (Key × D)} (h : WK l) : (l.filter fun p => decide (kI p.1 < 32)).map (fun p => kD p.1) = ((l.filter fun p => decide (kI p.1 < 32)).map fun p => kI p.1).map D.int := by
  rw [List.map_map]
  refine List.map_congr_left fun p hp => ?_
  obtain ⟨r, w, _, e, _⟩ := h.at_ p (List.mem_filter.mp hp).1
  show kD p.1 = D.int (kI p.1)
  rw [e]; rfl
theorem wk_get {l : List (Key × D)} (h : WK l) {p : Key × D} (hp : p ∈ l) : ∃ w : List Bool, vl l p.1 = some (.str (bS w)) ∧ w.length ≤ 15 := by
  obtain ⟨d, hd⟩ := vl_has hp
  obtain ⟨r, w, _, _, e2, e3⟩ := h.at_ _ (vl_some hd)
  have e2 : d = .str (bS w) := e2
  exact ⟨w, by rw [hd, e2], e3⟩
theorem l_body_ok {M : List Cn} {k : Nat} (hd : Drw M k) {many : Nat} (hm : many ≤ 255) (spo : Int) : Fo (fun a M' => Kpt M M' k ∧ ∃ ns : List Int, a = .new (.lst (ns.map D.int)) ∧ (∀ b ∈ ns, 0 ≤ b ∧ b ≤ 255) ∧ ns.length ≤ 1000) (m_l_body [.cid k, .int (many : Int), .int spo] M) := by
  walk_at "f0"; unfold b_l_body
  walk_at "w"
  refine fo_use (l_lengths_ok hd) ?_
  rintro _ M1 ⟨k1, ls1, rfl, hl1, s1, hs1, hp1⟩
  walk_at "wi"
  refine w_join (fun s => ∃ (ls : List Int) (M' : List Cn), (Kpt M M' k ∧ LnB ls ∧ (spo = 13 → ∃ s : Nat, s < 32 ∧ ls.getD s 0 = 1) ∧ (∃ s : Nat, s < 32 ∧ 0 < ls.getD s 0)) ∧ s = ⟨[some (.fz (.cid k)), some (.fz (.int (many : Int))), some (.fz (.int spo)), some (.ow (.lst (ls.map D.int))), none, none, none, none, none, none, none, none, none], M'⟩) ?_ ?_
  · walk_at "w"
    refine z_if (fun q => ?_) (fun q => ?_)
    · walk_at "w"
      refine fo_use (l_overfull_ok k1.dr) ?_
      rintro _ M2 ⟨k2, ls2, rfl, hl2, s2, hs2, hp2⟩
      walk_at "w"
      exact ⟨ls2, M2, ⟨k1.trans k2, hl2, fun _ => ⟨s2, hs2, hp2⟩, s2, hs2, by omega⟩, rfl⟩
    · walk_at "w"
      exact ⟨ls1, M1, ⟨k1, hl1, fun z => absurd z q, s1, hs1, hp1⟩, rfl⟩
  rintro s ⟨ls, M2, ⟨k2, hl, h13, hpos⟩, rfl⟩
  walk_at "w"
  refine fo_use (l_words_ok2 hl.bd hl.len M2) ?_
  rintro _ _ ⟨rfl, l0, rfl, hW, hK, hz⟩
  walk_at "wi"
  have hpos2 : ∃ s : Nat, s < 32 ∧ ∃ d, vl l0 (.inl (s : Int)) = some d := by
    obtain ⟨s, hs, h0⟩ := hpos
    obtain ⟨w, e, _⟩ := hW s (by omega) h0
    exact ⟨s, hs, _, e⟩
  have hwk0 := hK.wk hl hz hpos2
  refine w_join (fun s => ∃ (l : List (Key × D)), WK l ∧ s = ⟨[some (.fz (.cid k)), some (.fz (.int (many : Int))), some (.fz (.int spo)), some (.fz (.lst (ls.map D.int))), some (.ow (.dK l)), none, none, none, none, none, none, none, none], M2⟩) ?_ ?_
  · walk_at "w"
    refine z_if (fun q => ?_) (fun q => ?_)
    · walk_at "w"
      refine lc_filJ (β := Key × D) (fun p => .tup [kD p.1, p.2]) (fun p => decide (lS p.2 = 1)) (fun p => .tup [kD p.1, p.2]) trivial (by show l0.length ≤ 16777216; omega) ?_ ?_
      · intro p hp
        obtain ⟨r, w, _, e1, e2, e3⟩ := hwk0.at_ p hp
        rw [e1, e2, show kD (Sum.inl (r : Int)) = D.int (r : Int) from rfl, show lS (D.str (bS w)) = w.length from bS_len w]
        walk_at "w"
        refine w_lenB (by show _ ≤ 16777216; omega) ?_
        walk_at "w"
        refine ⟨decide_eq_decide.mpr (by omega), ?_⟩
        refine z_if (fun q => ?_) (fun q => ?_)
        · walk_at "w"
          exact ⟨rfl, rfl⟩
        · rfl
      walk_at "ds"
      walk_at "w"
      have hkp : kPairs ((l0.filter fun p => decide (lS p.2 = 1)).map fun p => .tup [kD p.1, p.2]) = some (l0.filter fun p => decide (lS p.2 = 1)) := kPairs_l fun p hp => by
        obtain ⟨r, w, _, e1, _⟩ := hwk0.at_ p (List.mem_filter.mp hp).1
        exact ⟨r, e1⟩
      refine w_dict rfl hkp ?_
      walk_at "w"
      refine ⟨_, WK.one hwk0.at_ hwk0.len ?_, rfl⟩
      obtain ⟨s, hs, h1⟩ := h13 q
      obtain ⟨w, e, e2, _⟩ := hW s (by omega) (by omega)
      refine ⟨_, vl_some e, ⟨s, hs, rfl⟩, ?_⟩
      show (bS w).length = 1
      rw [bS_len, e2, h1]; rfl
    · walk_at "w"
      exact ⟨l0, hwk0, rfl⟩
  rintro s ⟨l, hwk, rfl⟩
  have hln := hwk.len
  walk_at "w"
  refine lc_filJ (β := Key × D) (fun p => kD p.1) (fun p => decide (kI p.1 < 32)) (fun p => kD p.1) trivial (by show l.length ≤ 16777216; omega) ?_ ?_
  · intro p hp
    obtain ⟨r, w, _, e1, e2, e3⟩ := hwk.at_ p hp
    rw [e1, show kD (Sum.inl (r : Int)) = D.int (r : Int) from rfl, show kI (Sum.inl (r : Int)) = (r : Int) from rfl]
    walk_at "w"
    refine ⟨rfl, ?_⟩
    refine z_if (fun q => ?_) (fun q => ?_)
    · walk_at "w"
      exact ⟨rfl, rfl⟩
    · rfl
  walk_at "ds"
  rw [wk_known hwk]
  walk_at "w"
  refine w_sort rfl (sortOk_ints _) ?_
  rw [sort_ints]
  have hkn : (∀ x ∈ ((l.filter fun p => decide (kI p.1 < 32)).map fun p => kI p.1).mergeSort leI, ∃ p ∈ l, p.1 = .inl x) ∧ ((l.filter fun p => decide (kI p.1 < 32)).map fun p => kI p.1).mergeSort leI ≠ [] ∧ (((l.filter fun p => decide (kI p.1 < 32)).map fun p => kI p.1).mergeSort leI).length ≤ 600 := by
    have hpm := leI_perm ((l.filter fun p => decide (kI p.1 < 32)).map fun p => kI p.1)
    refine ⟨fun x hx => ?_, fun z => ?_, ?_⟩
    · obtain ⟨p, hp, rfl⟩ := List.mem_map.mp (hpm.mem_iff.mp hx)
      obtain ⟨r, w, _, e1, _⟩ := hwk.at_ p (List.mem_filter.mp hp).1
      exact ⟨p, (List.mem_filter.mp hp).1, by rw [e1]; rfl⟩
    · obtain ⟨p, hp, r, hr, e⟩ := hwk.has
      have : kI p.1 ∈ ((l.filter fun p => decide (kI p.1 < 32)).map fun p => kI p.1).mergeSort leI := hpm.mem_iff.mpr (List.mem_map.mpr ⟨p, List.mem_filter.mpr ⟨hp, decide_eq_true (by rw [e]; show (r : Int) < 32; omega)⟩, rfl⟩)
      rw [z] at this
      cases this
    · rw [hpm.length_eq, List.length_map]
      exact Nat.le_trans (List.length_filter_le _ _) hln
  obtain ⟨hk1, hk2, hk3⟩ := hkn
  generalize ((l.filter fun p => decide (kI p.1 < 32)).map fun p => kI p.1).mergeSort leI = kn at hk1 hk2 hk3 ⊢
  walk_at "w"
  have hlz := hl.len
  refine w_lcMap (fun d => match d with | .int i => .str (bS (bitsN i.toNat 4)) | d => d) (by rw [List.length_map]; show _ ≤ 16777216; omega) ?_ ?_
  · intro x hx
    obtain ⟨b, hbm, rfl⟩ := List.mem_map.mp hx
    have h0 := hl.bd b hbm
    walk_at "w"
    have e := l_bits_ok (x := b.toNat) (m := 4) (by omega) M2
    rw [show ((b.toNat : Nat) : Int) = b by omega] at e
    refine fo_eq e ?_
    walk_at "w"
    exact ⟨rfl, rfl⟩
  rw [List.map_map, show (ls.map ((fun d => match d with | .int i => .str (bS (bitsN i.toNat 4)) | d => d) ∘ D.int)) = (ls.map fun b => bitsN b.toNat 4).map fun B => D.str (bS B) from by rw [List.map_map]; rfl]
  walk_at "ds"
  walk_at "w"
  have hsum := sum_lens (Bs := ls.map fun b => bitsN b.toNat 4) (m := 4) (fun B hB => by
    obtain ⟨b, _, rfl⟩ := List.mem_map.mp hB
    rw [bitsN_len]; exact Nat.le_refl _)
  have hsb := strsB (ls.map fun (b : Int) => bitsN b.toNat 4)
  have hln0 : (ls.map fun (b : Int) => bitsN b.toNat 4).flatten.length = 132 := by
    rw [show (ls.map fun (b : Int) => bitsN b.toNat 4).flatten = taB ls from rfl, taB_len, hlz]
  refine ⟨_, hsb, ?_, ?_⟩
  · rw [List.length_map, hlz] at hsum
    have : (Str.ofString "").length = 0 := by decide +kernel
    rw [this, Nat.mul_zero, Nat.add_zero]
    omega
  rw [joinB]
  generalize (ls.map fun (b : Int) => bitsN b.toNat 4).flatten = B0 at hln0 ⊢
  walk_at "w"
  refine fo_use (next_ok k2.dr (z := 15) (by decide) (by decide)) ?_
  rintro _ M3 ⟨x3, rfl, x30, x31, k3⟩
  walk_at "w"
  obtain ⟨c, hc, hc2⟩ : ∃ c : Int, (if decide (spo = 12) = true then (1 : Int) else 0) = c ∧ (c = 0 ∨ c = 1) := ⟨_, rfl, by split; exact .inr rfl; exact .inl rfl⟩
  rw [hc]
  obtain ⟨y, hy⟩ : ∃ y : Nat, c * (1 + x3) = (y : Int) := ⟨(c * (1 + x3)).toNat, by rcases hc2 with rfl | rfl <;> omega⟩
  rw [hy]
  refine fo_eq (l_bits_ok (x := y) (m := 4) (by omega) M3) ?_
  walk_at "w"
  refine w_addB (by show _ ≤ 16777216; rw [bitsN_len]; omega) ?_
  have hln1 : (B0 ++ bitsN y 4).length = 136 := by rw [List.length_append, bitsN_len]; omega
  have k3' := k2.trans k3
  generalize B0 ++ bitsN y 4 = B1 at hln1 ⊢
  walk_at "wi"
  refine w_while (fun n s => ∃ (B : List Bool) (made : Nat) (M' : List Cn) (e8 e9 e10 e11 e12 : Option Ent), s = ⟨[some (.fz (.cid k)), some (.fz (.int (many : Int))), some (.fz (.int spo)), some (.fz (.lst (ls.map D.int))), some (.ow (.dK l)), some (.ow (.lst (kn.map D.int))), some (.fz (.int (made : Int))), some (.fz (.str (bS B))), e8, e9, e10, e11, e12], M'⟩ ∧ Kpt M M' k ∧ B.length ≤ 136 + 27 * made ∧ made ≤ many + 1 ∧ n = many - made) many ⟨B1, 0, M3, _, _, _, _, _, rfl, k3', by omega, by omega, rfl⟩ ?_ oe_no
  rintro n s ⟨B, made, M4, e8, e9, e10, e11, e12, rfl, k4, hB, hmd, hn⟩
  walk_at "w"
  refine z_if (fun q => ?_) (fun q => ?_)
  · have q : made < many := by omega
    refine w_ifS (w_mono (Q := fun b s1 => ∃ M5, (Kpt M M5 k ∧ (b = true → 0 < made ∧ ∃ w, vl l (.inl 32) = some (.str (bS w)) ∧ w.length ≤ 15)) ∧ s1 = ⟨[some (.fz (.cid k)), some (.fz (.int (many : Int))), some (.fz (.int spo)), some (.fz (.lst (ls.map D.int))), some (.ow (.dK l)), some (.ow (.lst (kn.map D.int))), some (.fz (.int (made : Int))), some (.fz (.str (bS B))), e8, e9, e10, e11, e12], M5⟩) ?_ ?_)
    · walk_at "w"
      refine w_inD rfl ?_
      walk_at "w"
      cases e32 : vl l (.inl 32) with
      | none =>
        rw [show (Option.isSome (none : Option D)) = false from rfl]
        walk_at "w"
        exact ⟨M4, ⟨k4, fun z => by cases z⟩, rfl⟩
      | some d =>
        obtain ⟨w, hw, hwl⟩ := wk_get hwk (vl_some e32)
        have hw : vl l (.inl 32) = some (.str (bS w)) := hw
        rw [show (Option.isSome (some d)) = true from rfl]
        walk_at "w"
        refine z_if (fun q1 => ?_) (fun q1 => ?_)
        · walk_at "w"
          refine fo_use (next_ok k4.dr (z := 2) (by decide) (by decide)) ?_
          rintro _ M5 ⟨x5, rfl, x50, x51, k5⟩
          walk_at "w"
          exact ⟨M5, ⟨k4.trans k5, fun _ => ⟨by omega, w, e32.symm.trans hw, hwl⟩⟩, rfl⟩
        · exact ⟨M4, ⟨k4, fun z => by cases z⟩, rfl⟩
    rintro b s1 ⟨M5, ⟨k5, hb⟩, rfl⟩
    cases b with
    | true =>
      obtain ⟨hm0, w, hw, hwl⟩ := hb rfl
      rw [if_pos rfl]
      walk_at "w"
      refine fo_use (next_ok k5.dr (z := min 16 ((many : Int) - made)) (by omega) (by omega)) ?_
      rintro _ M6 ⟨x6, rfl, x60, x61, k6⟩
      walk_at "w"
      refine fo_use (next_ok k6.dr (z := min 256 (made : Int)) (by omega) (by omega)) ?_
      rintro _ M7 ⟨x7, rfl, x70, x71, k7⟩
      have k7 := k5.trans (k6.trans k7)
      walk_at "wi"
      refine w_join (fun s => ∃ (far : Nat) (M' : List Cn), (Kpt M M' k ∧ far ≤ 255) ∧ s = ⟨[some (.fz (.cid k)), some (.fz (.int (many : Int))), some (.fz (.int spo)), some (.fz (.lst (ls.map D.int))), some (.ow (.dK l)), some (.ow (.lst (kn.map D.int))), some (.fz (.int (made : Int))), some (.fz (.str (bS B))), some (.fz (.int (1 + x6))), some (.fz (.int ((far : Int) + 1))), e10, e11, e12], M'⟩) ?_ ?_
      · walk_at "w"
        refine z_if (fun q2 => ?_) (fun q2 => ?_)
        · walk_at "w"
          refine fo_use (next_ok k7.dr (z := 3) (by decide) (by decide)) ?_
          rintro _ M8 ⟨x8, rfl, x80, x81, k8⟩
          walk_at "w"
          refine z_if (fun q3 => ?_) (fun q3 => ?_)
          · walk_at "w"
            refine ⟨(min 256 ((made : Int) + 1) - 1).toNat, M8, ⟨k7.trans k8, by omega⟩, ?_⟩
            rw [show (((min 256 ((made : Int) + 1) - 1).toNat : Nat) : Int) + 1 = min 256 ((made : Int) + 1) by omega] <;> rfl
          · walk_at "w"
            refine ⟨x7.toNat, M8, ⟨k7.trans k8, by omega⟩, ?_⟩
            rw [show ((x7.toNat : Nat) : Int) + 1 = 1 + x7 by omega] <;> rfl
        · walk_at "w"
          refine ⟨x7.toNat, M7, ⟨k7, by omega⟩, ?_⟩
          rw [show ((x7.toNat : Nat) : Int) + 1 = 1 + x7 by omega] <;> rfl
      rintro s ⟨far, M8, ⟨k8, hfar⟩, rfl⟩
      walk_at "wi"
      refine w_join (fun s => ∃ (sz : Nat) (M' : List Cn), (Kpt M M' k ∧ sz ≤ 15 ∧ made + sz ≤ many) ∧ s = ⟨[some (.fz (.cid k)), some (.fz (.int (many : Int))), some (.fz (.int spo)), some (.fz (.lst (ls.map D.int))), some (.ow (.dK l)), some (.ow (.lst (kn.map D.int))), some (.fz (.int (made : Int))), some (.fz (.str (bS B))), some (.fz (.int ((sz : Int) + 1))), some (.fz (.int ((far : Int) + 1))), e10, e11, e12], M'⟩) ?_ ?_
      · walk_at "w"
        refine z_if (fun q2 => ?_) (fun q2 => ?_)
        · walk_at "w"
          refine fo_use (next_ok k8.dr (z := 3) (by decide) (by decide)) ?_
          rintro _ M9 ⟨x9, rfl, x90, x91, k9⟩
          walk_at "w"
          refine z_if (fun q3 => ?_) (fun q3 => ?_)
          · walk_at "w"
            refine ⟨(min 16 ((many : Int) - made + 1) - 1).toNat, M9, ⟨k8.trans k9, by omega, by omega⟩, ?_⟩
            rw [show (((min 16 ((many : Int) - made + 1) - 1).toNat : Nat) : Int) + 1 = min 16 ((many : Int) - made + 1) by omega] <;> rfl
          · walk_at "w"
            refine ⟨x6.toNat, M9, ⟨k8.trans k9, by omega, by omega⟩, ?_⟩
            rw [show ((x6.toNat : Nat) : Int) + 1 = 1 + x6 by omega] <;> rfl
        · walk_at "w"
          refine ⟨x6.toNat, M8, ⟨k8, by omega, by omega⟩, ?_⟩
          rw [show ((x6.toNat : Nat) : Int) + 1 = 1 + x6 by omega] <;> rfl
      rintro s ⟨sz, M9, ⟨k9, hsz, hsz2⟩, rfl⟩
      walk_at "w"
      refine w_ixK rfl rfl hw ?_
      walk_at "w"
      refine w_addB (by show _ ≤ 16777216; omega) ?_
      walk_at "w"
      rw [show (far : Int) + 1 - 1 = (far : Int) by omega]
      refine fo_eq (l_bits_ok (x := far) (m := 8) (by omega) M9) ?_
      walk_at "w"
      refine w_addB (by show _ ≤ 16777216; rw [List.length_append, bitsN_len]; omega) ?_
      walk_at "w"
      rw [show (sz : Int) + 1 - 1 = (sz : Int) by omega]
      refine fo_eq (l_bits_ok (x := sz) (m := 4) (by omega) M9) ?_
      walk_at "w"
      refine w_addB (by show _ ≤ 16777216; rw [List.length_append, List.length_append, bitsN_len, bitsN_len]; omega) ?_
      walk_at "w"
      rw [show (made : Int) + ((sz : Int) + 1) = ((made + (sz + 1) : Nat) : Int) by omega]
      refine ⟨many - (made + (sz + 1)), by omega, _, made + (sz + 1), M9, _, _, _, _, _, rfl, k9, ?_, by omega, rfl⟩
      · rw [List.length_append, List.length_append, List.length_append, bitsN_len, bitsN_len]; omega
    | false =>
      rw [if_neg (by decide)]
      walk_at "w"
      rw [List.length_map]
      have hkl : 0 < kn.length := List.length_pos_iff.mpr hk2
      refine fo_use (next_ok k5.dr (z := (kn.length : Int)) (by omega) (by omega)) ?_
      rintro _ M6 ⟨x6, rfl, x60, x61, k6⟩
      walk_at "w"
      refine w_ixI (ns := kn) rfl rfl rfl x60 x61 ?_
      have hin : kn.getD x6.toNat 0 ∈ kn := by
        rw [List.getD_eq_getElem?_getD, List.getElem?_eq_getElem (by omega)]
        exact List.getElem_mem _
      generalize kn.getD x6.toNat 0 = sy at hin ⊢
      obtain ⟨p, hp, hp1⟩ := hk1 sy hin
      obtain ⟨w, hw, hwl⟩ := wk_get hwk hp
      rw [hp1] at hw
      walk_at "w"
      refine w_ixK rfl rfl hw ?_
      walk_at "w"
      refine w_addB (by show _ ≤ 16777216; omega) ?_
      walk_at "w"
      refine fo_use (next_ok k6.dr (z := 8) (by decide) (by decide)) ?_
      rintro _ M7 ⟨x7, rfl, x70, x71, k7⟩
      walk_at "w"
      have e := l_bits_ok (x := x7.toNat) (m := 3) (by omega) M7
      rw [show ((x7.toNat : Nat) : Int) = x7 by omega] at e
      refine fo_eq e ?_
      walk_at "w"
      refine w_addB (by show _ ≤ 16777216; rw [List.length_append, bitsN_len]; omega) ?_
      walk_at "w"
      rw [show (made : Int) + 1 = ((made + 1 : Nat) : Int) by omega]
      refine ⟨many - (made + 1), by omega, _, made + 1, M7, _, _, _, _, _, rfl, k5.trans (k6.trans k7), ?_, by omega, rfl⟩
      · rw [List.length_append, List.length_append, bitsN_len]; omega
  · walk_at "wi"
    refine w_join (fun s => ∃ (B' : List Bool), B'.length ≤ 7500 ∧ s = ⟨[some (.fz (.cid k)), some (.fz (.int (many : Int))), some (.fz (.int spo)), some (.fz (.lst (ls.map D.int))), some (.ow (.dK l)), some (.ow (.lst (kn.map D.int))), some (.fz (.int (made : Int))), some (.fz (.str (bS B'))), e8, e9, e10, e11, e12], M4⟩) ?_ ?_
    · walk_at "w"
      refine z_if (fun q2 => ?_) (fun q2 => ?_)
      · walk_at "w"
        rw [show Str.ofString "1" = bS [true] from by decide +kernel]
        refine w_addB (by show _ ≤ 16777216; show B.length + 1 ≤ _; omega) ?_
        walk_at "w"
        exact ⟨_, by rw [List.length_append]; show B.length + 1 ≤ _; omega, rfl⟩
      · walk_at "w"
        exact ⟨B, by omega, rfl⟩
    rintro s ⟨B', hB', rfl⟩
    walk_at "w"
    refine fo_eq (l_bytes_ok (by omega) M4) ?_
    walk_at "w"
    have hpl : (padB B').length = B'.length + padd B'.length := by show (B' ++ _).length = _; rw [List.length_append, List.length_replicate]
    have hpd : padd B'.length < 8 := by unfold padd; omega
    exact ⟨k4, _, rfl, byL_bd _, by rw [(rsL_len _).2, hpl]; omega⟩
def By (ns : List Int) : Prop := ∀ b ∈ ns, 0 ≤ b ∧ b ≤ 255
theorem By.set {ns : List Int} (h : By ns) {i : Nat} {v : Int} (hv : 0 ≤ v ∧ v ≤ 255) : By (ns.set i v) := fun b hb => by
  rcases List.mem_or_eq_of_mem_set hb with hb | rfl
  · exact h b hb
  · exact hv
theorem By.app {a b : List Int} (ha : By a) (hb : By b) : By (a ++ b) := fun x hx => by
  rcases List.mem_append.mp hx with h | h
  · exact ha x h
  · exact hb x h
theorem By.at {ns : List Int} (h : By ns) {i : Nat} (hi : i < ns.length) : 0 ≤ ns.getD i 0 ∧ ns.getD i 0 ≤ 255 := by
  rw [List.getD_eq_getElem?_getD, List.getElem?_eq_getElem hi]
  exact h _ (List.getElem_mem hi)
theorem By.byt {ns : List Int} (h : By ns) : Z.Byt ns := fun b hb => by have := h b hb; omega
theorem By.crc (ns : List Int) (h : By ns) : By (crcB ns) := fun b hb => by
  have := crcN_lt (ns := ns) (f := 65535) (by decide) h.byt
  have e : (2 : Nat) ^ 16 = 65536 := rfl
  simp [crcB] at hb
  rcases hb with rfl | rfl <;> omega
theorem xor_byte {b : Int} (hb : 0 ≤ b ∧ b ≤ 255) {j : Int} (hj : 0 ≤ j ∧ j < 8) : 0 ≤ Builtin.bitXor b (1 * 2 ^ j.toNat) ∧ Builtin.bitXor b (1 * 2 ^ j.toNat) ≤ 255 := by
  obtain ⟨x, rfl⟩ : ∃ x : Nat, b = (x : Int) := ⟨b.toNat, by omega⟩
  obtain ⟨i, rfl⟩ : ∃ i : Nat, j = (i : Int) := ⟨j.toNat, by omega⟩
  have h2 : (1 : Int) * 2 ^ ((i : Int)).toNat = ((2 ^ i : Nat) : Int) := by rw [Int.one_mul, Int.toNat_natCast]; push_cast; rfl
  have hp : ∀ i : Fin 8, 2 ^ i.val < 256 := by decide
  have hp := hp ⟨i, by omega⟩
  have hx : x ^^^ 2 ^ i < 2 ^ 8 := Nat.xor_lt_two_pow (by show x < 256; omega) (by show 2 ^ i < 256; exact hp)
  rw [h2, Z.xor_nat]
  have e : (2 : Nat) ^ 8 = 256 := rfl
  omega
theorem l_piece_ok {M : List Cn} {k : Nat} (hd : Drw M k) : Fo (fun a M' => Kpt M M' k ∧ ∃ ns : List Int, a = .new (.lst (ns.map D.int)) ∧ By ns ∧ ns.length ≤ 1100) (m_l_piece [.cid k] M) := by
  walk_at "f0"; unfold b_l_piece
  walk_at "w"
  refine fo_use (next_ok hd (z := 3) (by decide) (by decide)) ?_
  rintro _ M1 ⟨x1, rfl, x10, x11, k1⟩
  walk_at "w"
  obtain ⟨kd, hkd, hkd2⟩ : ∃ kd : Int, (0 ≤ kd ∧ kd ≤ 1) ∧ atI [D.int 0, D.int 1, D.int 1] x1 = some (.int kd) := by
    have : x1 = 0 ∨ x1 = 1 ∨ x1 = 2 := by omega
    rcases this with rfl | rfl | rfl
    · exact ⟨0, by decide, rfl⟩
    · exact ⟨1, by decide, rfl⟩
    · exact ⟨1, by decide, rfl⟩
  refine w_ixL (l := [D.int 0, D.int 1, D.int 1]) rfl rfl rfl hkd2 ?_
  walk_at "w"
  refine fo_use (next_ok k1.dr (z := 30) (by decide) (by decide)) ?_
  rintro _ M2 ⟨x2, rfl, x20, x21, k2⟩
  walk_at "w"
  refine fo_use (next_ok k2.dr (z := 12) (by decide) (by decide)) ?_
  rintro _ M3 ⟨x3, rfl, x30, x31, k3⟩
  walk_at "w"
  obtain ⟨many, hmy, hmy2⟩ : ∃ many : Nat, many ≤ 255 ∧ atI [D.int x2, D.int 255, D.int 1, D.int 0] (max 0 (x3 - 8)) = some (.int (many : Int)) := by
    have : max 0 (x3 - 8) = 0 ∨ max 0 (x3 - 8) = 1 ∨ max 0 (x3 - 8) = 2 ∨ max 0 (x3 - 8) = 3 := by omega
    rcases this with e | e | e | e <;> rw [e]
    · exact ⟨x2.toNat, by omega, by rw [show ((x2.toNat : Nat) : Int) = x2 by omega]; rfl⟩
    · exact ⟨255, by omega, rfl⟩
    · exact ⟨1, by omega, rfl⟩
    · exact ⟨0, by omega, rfl⟩
  refine w_ixL (l := [D.int x2, D.int 255, D.int 1, D.int 0]) rfl rfl rfl hmy2 ?_
  walk_at "w"
  refine fo_use (next_ok k3.dr (z := 16) (by decide) (by decide)) ?_
  rintro _ M4 ⟨spo, rfl, x40, x41, k4⟩
  have k4 := k1.trans (k2.trans (k3.trans k4))
  walk_at "w"
  refine w_lcInv (fun i acc s => ∃ (ns : List Int) (M' : List Cn), acc = ns.map D.int ∧ By ns ∧ ns.length = i ∧ Kpt M M' k ∧ s = ⟨[some (.fz (.cid k)), some (.fz (.int kd)), some (.fz (.int (many : Int))), some (.fz (.int spo)), none, none, none, none, none], M'⟩) ⟨[], M4, rfl, (fun b hb => by cases hb), rfl, k4, rfl⟩ (by rw [rng_len]; show _ ≤ 16777216; omega) ?_ ?_
  · rintro i x acc s hi ⟨ns, M5, rfl, hb, hn, k5, rfl⟩
    walk_at "w"
    refine fo_use (next_ok k5.dr (z := 256) (by decide) (by decide)) ?_
    rintro _ M6 ⟨x6, rfl, x60, x61, k6⟩
    walk_at "w"
    refine ⟨ns ++ [x6], M6, by rw [List.map_append]; rfl, hb.app (fun b hb => by rw [List.mem_singleton.mp hb]; omega), by rw [List.length_append, hn]; rfl, k5.trans k6, rfl⟩
  rintro acc s ⟨ns, M5, rfl, hb, hn, k5, rfl⟩
  rw [rng_len, Int.toNat_natCast] at hn
  walk_at "ds"
  walk_at "wi"
  refine w_join (fun s => ∃ (ns : List Int) (M' : List Cn) (e8 : Option Ent), (By ns ∧ ns.length ≤ 1000 ∧ Kpt M M' k) ∧ s = ⟨[some (.fz (.cid k)), some (.fz (.int kd)), some (.fz (.int (many : Int))), some (.fz (.int spo)), some (.ow (.lst (ns.map D.int))), none, none, none, e8], M'⟩) ?_ ?_
  · walk_at "w"
    refine z_if (fun q => ?_) (fun q => ?_)
    · walk_at "w"
      refine fo_use (l_body_ok k5.dr hmy spo) ?_
      rintro _ M6 ⟨k6, ns2, rfl, hb2, hl2⟩
      walk_at "w"
      exact ⟨ns2, M6, _, ⟨hb2, hl2, k5.trans k6⟩, rfl⟩
    · walk_at "w"
      exact ⟨ns, M5, _, ⟨hb, by omega, k5⟩, rfl⟩
  rintro s ⟨bs, M6, e8, ⟨hb6, hl6, k6⟩, rfl⟩
  clear hb hn k5
  walk_at "w"
  refine fo_use (next_ok k6.dr (z := 255) (by decide) (by decide)) ?_
  rintro _ M7 ⟨x7, rfl, x70, x71, k7⟩
  walk_at "w"
  refine fo_use (next_ok k7.dr (z := 255) (by decide) (by decide)) ?_
  rintro _ M8 ⟨x8, rfl, x80, x81, k8⟩
  walk_at "w"
  have k8 := k6.trans (k7.trans k8)
  refine w_addL (l := [D.int kd, D.int x7, D.int x8, D.int (many : Int)]) (l' := bs.map D.int) rfl rfl rfl (by rw [List.length_map]; show 4 + _ ≤ 16777216; omega) ?_
  obtain ⟨ts, ets, hts, hlt⟩ : ∃ ts : List Int, [D.int kd, D.int x7, D.int x8, D.int (many : Int)] ++ bs.map D.int = ts.map D.int ∧ By ts ∧ ts.length = bs.length + 4 := ⟨[kd, x7, x8, (many : Int)] ++ bs, by rw [List.map_append]; rfl, By.app (fun b hb => by simp at hb; rcases hb with rfl | rfl | rfl | rfl <;> omega) hb6, by rw [List.length_append]; show 4 + _ = _; omega⟩
  rw [ets]
  clear ets
  walk_at "wi"
  refine w_join (fun s => ∃ (ts : List Int) (M' : List Cn), (By ts ∧ ts.length = bs.length + 4 ∧ Kpt M M' k) ∧ s = ⟨[some (.fz (.cid k)), some (.fz (.int kd)), some (.fz (.int (many : Int))), some (.fz (.int spo)), some (.ow (.lst (bs.map D.int))), some (.ow (.lst (ts.map D.int))), none, none, e8], M'⟩) ?_ ?_
  · walk_at "w"
    refine z_if (fun q => ?_) (fun q => ?_)
    · walk_at "w"
      refine fo_use (next_ok k8.dr (z := 3) (by decide) (by decide)) ?_
      rintro _ M9 ⟨x9, rfl, x90, x91, k9⟩
      walk_at "w"
      obtain ⟨v, hv, hv2⟩ : ∃ v : Int, (0 ≤ v ∧ v ≤ 255) ∧ atI [D.int 2, D.int 255, D.int 255] x9 = some (.int v) := by
        have : x9 = 0 ∨ x9 = 1 ∨ x9 = 2 := by omega
        rcases this with rfl | rfl | rfl
        · exact ⟨2, by decide, rfl⟩
        · exact ⟨255, by decide, rfl⟩
        · exact ⟨255, by decide, rfl⟩
      refine w_ixL (l := [D.int 2, D.int 255, D.int 255]) rfl rfl rfl hv2 ?_
      walk_at "w"
      refine fo_use (next_ok k9.dr (z := 3) (by decide) (by decide)) ?_
      rintro _ M10 ⟨x10', rfl, y0, y1, k10⟩
      walk_at "w"
      refine so_setI (ns := ts) rfl y0 (by omega) ?_
      walk_at "ds"
      exact ⟨_, M10, ⟨hts.set hv, by rw [List.length_set]; exact hlt, k8.trans (k9.trans k10)⟩, rfl⟩
    · walk_at "w"
      exact ⟨ts, M8, ⟨hts, hlt, k8⟩, rfl⟩
  clear hts hlt
  rintro s ⟨ts, M9, ⟨hts, hlt, k9⟩, rfl⟩
  walk_at "wi"
  refine w_join (fun s => ∃ (ts : List Int) (M' : List Cn), (By ts ∧ ts.length = bs.length + 4 ∧ Kpt M M' k) ∧ s = ⟨[some (.fz (.cid k)), some (.fz (.int kd)), some (.fz (.int (many : Int))), some (.fz (.int spo)), some (.ow (.lst (bs.map D.int))), some (.ow (.lst (ts.map D.int))), none, none, e8], M'⟩) ?_ ?_
  · have hset : ∀ {N : Stt → Prop} {O : Rs → Prop}, (∀ (ts' : List Int) (M' : List Cn), By ts' → ts'.length = bs.length + 4 → Kpt M M' k → N ⟨[some (.fz (.cid k)), some (.fz (.int kd)), some (.fz (.int (many : Int))), some (.fz (.int spo)), some (.ow (.lst (bs.map D.int))), some (.ow (.lst (ts'.map D.int))), none, none, e8], M'⟩) → Ws N O (mAsgS (mName 5) (mCallN m_l_next (vCons (mName 0) (vCons (mCB fLen (aCons (mName 5) aNil)) vNil))) (mCallN m_l_next (vCons (mName 0) (vCons (mC (.int 256)) vNil))) ⟨[some (.fz (.cid k)), some (.fz (.int kd)), some (.fz (.int (many : Int))), some (.fz (.int spo)), some (.ow (.lst (bs.map D.int))), some (.ow (.lst (ts.map D.int))), none, none, e8], M9⟩) := by
      intro N O hN
      walk_at "w"
      refine fo_use (next_ok k9.dr (z := 256) (by decide) (by decide)) ?_
      rintro _ M10 ⟨v, rfl, v0, v1, k10⟩
      walk_at "w"
      rw [List.length_map]
      refine fo_use (next_ok k10.dr (z := (ts.length : Int)) (by omega) (by omega)) ?_
      rintro _ M11 ⟨i, rfl, i0, i1, k11⟩
      walk_at "w"
      refine so_setI (ns := ts) rfl i0 i1 ?_
      walk_at "ds"
      exact hN _ M11 (hts.set ⟨v0, by omega⟩) (by rw [List.length_set]; exact hlt) (k9.trans (k10.trans k11))
    walk_at "w"
    refine z_if (fun q => ?_) (fun q => ?_)
    · refine z_iT ?_
      exact hset fun ts' M' h1 h2 h3 => ⟨ts', M', ⟨h1, h2, h3⟩, rfl⟩
    · walk_at "w"
      refine z_if (fun q => ?_) (fun q => ?_)
      · exact hset fun ts' M' h1 h2 h3 => ⟨ts', M', ⟨h1, h2, h3⟩, rfl⟩
      · walk_at "w"
        exact ⟨ts, M9, ⟨hts, hlt, k9⟩, rfl⟩
  clear hts hlt
  rintro s ⟨ts, M10, ⟨hts, hlt, k10⟩, rfl⟩
  walk_at "wi"
  refine w_join (fun s => ∃ (ts : List Int) (e6 : Option Ent) (M' : List Cn), (By ts ∧ ts.length = bs.length + 4 ∧ Kpt M M' k) ∧ s = ⟨[some (.fz (.cid k)), some (.fz (.int kd)), some (.fz (.int (many : Int))), some (.fz (.int spo)), some (.ow (.lst (bs.map D.int))), some (.ow (.lst (ts.map D.int))), e6, none, e8], M'⟩) ?_ ?_
  · walk_at "w"
    refine z_if (fun q => ?_) (fun q => ?_)
    · walk_at "w"
      refine w_ne (_root_.Y.eqOf_ints (ns := bs) (ms := []) rfl rfl (.inl rfl) (.inl rfl)) ?_
      walk_at "w"
      by_cases hbe : bs = []
      · rw [decide_eq_true hbe]
        walk_at "w"
        exact ⟨ts, _, M10, ⟨hts, hlt, k10⟩, rfl⟩
      · rw [decide_eq_false hbe]
        have hbl : 0 < bs.length := List.length_pos_iff.mpr hbe
        walk_at "w"
        rw [List.length_map]
        refine fo_use (next_ok k10.dr (z := (bs.length : Int)) (by omega) (by omega)) ?_
        rintro _ M11 ⟨i, rfl, i0, i1, k11⟩
        walk_at "w"
        refine w_ixI (ns := ts) rfl rfl rfl (by omega) (by omega) ?_
        walk_at "w"
        refine fo_use (next_ok k11.dr (z := 8) (by decide) (by decide)) ?_
        rintro _ M12 ⟨j, rfl, j0, j1, k12⟩
        have sh : CShl 1 j := cshl_1 (by omega) (by omega)
        walk_at "w"
        have hx := xor_byte (hts.at (i := (4 + i).toNat) (by omega)) ⟨j0, j1⟩
        generalize Builtin.bitXor (ts.getD (4 + i).toNat 0) (1 * 2 ^ j.toNat) = v at hx ⊢
        refine so_setI (ns := ts) rfl (by omega) (by omega) ?_
        walk_at "ds"
        exact ⟨_, _, M12, ⟨hts.set hx, by rw [List.length_set]; exact hlt, k10.trans (k11.trans k12)⟩, rfl⟩
    · exact ⟨ts, _, M10, ⟨hts, hlt, k10⟩, rfl⟩
  clear hts hlt
  rintro s ⟨ts, e6, M11, ⟨hts, hlt, k11⟩, rfl⟩
  walk_at "w"
  refine w_addL (l := [D.int 165, D.int 90]) (l' := ts.map D.int) rfl rfl rfl (by rw [List.length_map]; show 2 + _ ≤ 16777216; omega) ?_
  walk_at "w"
  refine fo_eq (l_sum_ok hts.byt M11) ?_
  walk_at "w"
  refine w_addL (l := [D.int 165, D.int 90] ++ ts.map D.int) (l' := (crcB ts).map D.int) rfl rfl rfl (by rw [List.length_append, List.length_map, List.length_map, crcB_len]; show 2 + _ + 2 ≤ 16777216; omega) ?_
  obtain ⟨rs, ers, hrs, hlr⟩ : ∃ rs : List Int, [D.int 165, D.int 90] ++ ts.map D.int ++ (crcB ts).map D.int = rs.map D.int ∧ By rs ∧ rs.length = bs.length + 8 := ⟨[165, 90] ++ ts ++ crcB ts, by rw [List.map_append, List.map_append]; rfl, (By.app (fun b hb => by simp at hb; rcases hb with rfl | rfl <;> omega) hts).app (By.crc ts hts), by rw [List.length_append, List.length_append, crcB_len]; show 2 + _ + 2 = _; omega⟩
  rw [ers]
  clear ers
  walk_at "wi"
  refine w_join (fun s => ∃ (rs : List Int) (M' : List Cn) (e5 : Option Ent), (By rs ∧ rs.length = bs.length + 8 ∧ Kpt M M' k) ∧ s = ⟨[some (.fz (.cid k)), some (.fz (.int kd)), some (.fz (.int (many : Int))), some (.fz (.int spo)), some (.ow (.lst (bs.map D.int))), e5, e6, some (.ow (.lst (rs.map D.int))), e8], M'⟩) ?_ ?_
  · walk_at "w"
    refine z_if (fun q => ?_) (fun q => ?_)
    · walk_at "w"
      refine z_if (fun q => ?_) (fun q => ?_)
      · walk_at "w"
        refine fo_use (next_ok k11.dr (z := 256) (by decide) (by decide)) ?_
        rintro _ M12 ⟨v, rfl, v0, v1, k12⟩
        walk_at "w"
        rw [List.length_map]
        refine fo_use (next_ok k12.dr (z := (rs.length : Int)) (by omega) (by omega)) ?_
        rintro _ M13 ⟨i, rfl, i0, i1, k13⟩
        walk_at "w"
        refine so_setI (ns := rs) rfl i0 i1 ?_
        walk_at "ds"
        exact ⟨_, M13, _, ⟨hrs.set ⟨v0, by omega⟩, by rw [List.length_set]; exact hlr, k11.trans (k12.trans k13)⟩, rfl⟩
      · walk_at "w"
        exact ⟨rs, M11, _, ⟨hrs, hlr, k11⟩, rfl⟩
    · walk_at "w"
      exact ⟨rs, M11, _, ⟨hrs, hlr, k11⟩, rfl⟩
  clear hrs hlr
  rintro s ⟨rs, M12, e5, ⟨hrs, hlr, k12⟩, rfl⟩
  walk_at "wi"
  refine w_join (fun s => ∃ (rs : List Int) (M' : List Cn), (By rs ∧ rs.length ≤ bs.length + 8 ∧ Kpt M M' k) ∧ s = ⟨[some (.fz (.cid k)), some (.fz (.int kd)), some (.fz (.int (many : Int))), some (.fz (.int spo)), some (.ow (.lst (bs.map D.int))), e5, e6, some (.ow (.lst (rs.map D.int))), e8], M'⟩) ?_ ?_
  · walk_at "w"
    refine z_if (fun q => ?_) (fun q => ?_)
    · walk_at "w"
      rw [List.length_map]
      refine fo_use (next_ok k12.dr (z := (rs.length : Int)) (by omega) (by omega)) ?_
      rintro _ M13 ⟨i, rfl, i0, i1, k13⟩
      walk_at "w"
      rw [cutL_to _ i0, ← List.map_take]
      exact ⟨rs.take i.toNat, M13, ⟨fun b hb => hrs b (List.mem_of_mem_take hb), by rw [List.length_take]; omega, k12.trans k13⟩, rfl⟩
    · walk_at "w"
      exact ⟨rs, M12, ⟨hrs, by omega, k12⟩, rfl⟩
  clear hrs hlr
  rintro s ⟨rs, M13, ⟨hrs, hlr, k13⟩, rfl⟩
  walk_at "w"
  exact ⟨k13, rs, rfl, hrs, by omega⟩
def pcP (q : Nat) : Option (Int × Int × Int × List Int × Nat) → PyData
  | none => .none
  | some (k, x, n, told, z) => .tuple [.int k, .int x, .int n, .list (told.map PyData.int), .int ((q + z : Nat) : Int)]
theorem lay_pc (q : Nat) (v : Option (Int × Int × Int × List Int × Nat)) : Lay 3 (pcP q v) := by
  cases v with
  | none => exact lay_none.mono (by decide)
  | some p =>
    obtain ⟨k, x, n, told, z⟩ := p
    refine lay_tup (k := 2) fun y hy => ?_
    simp at hy
    rcases hy with rfl | rfl | rfl | rfl | rfl
    · exact lay_int.mono (by decide)
    · exact lay_int.mono (by decide)
    · exact lay_int.mono (by decide)
    · exact lay_lints _
    · exact lay_int.mono (by decide)
theorem pyR_tupI {s : Stt} {k x n w : Int} {d : D} {told : List Int} (h : rsv 8 s.M d = some (.lst (told.map D.int))) : pyR s (.val (.tup [.int k, .int x, .int n, d, .int w])) = some (.tuple [.int k, .int x, .int n, .list (told.map PyData.int), .int w]) := by
  have e : rsv 9 s.M (.tup [.int k, .int x, .int n, d, .int w]) = some (.tup [.int k, .int x, .int n, .lst (told.map D.int), .int w]) := by
    refine rsv_tints 8 s.M _ _ ?_
    simp only [mapO]
    rw [h]; rfl
  show (rsv 9 s.M (.tup [.int k, .int x, .int n, d, .int w])).bind D.py = _
  rw [e, Option.bind_some]
  show (D.pyL [.int k, .int x, .int n, .lst (told.map D.int), .int w]).map PyData.tuple = _
  simp only [D.pyL, D.py]
  rw [pyL_ints]; rfl
theorem pyR_pcD {s : Stt} {a : AI} {q : Nat} {v : Option (Int × Int × Int × List Int × Nat)} (h : look s a = some (pcD q v)) : pyR s a = some (pcP q v) := by
  cases v with
  | none => show ((look s a).bind _).bind _ = _; rw [h]; rfl
  | some p =>
    obtain ⟨k, x, n, told, z⟩ := p
    have := pyR_tupI (s := s) (k := k) (x := x) (n := n) (w := ((q + z : Nat) : Int)) (d := .lst (told.map D.int)) (told := told) (rsv_lints 6 s.M told)
    show ((look s a).bind _).bind _ = _
    rw [h]; exact this
/-- what piece_at told, in the law's memory -/
def PcT (M : List Cn) (q : Nat) (d : D) : Option (Int × Int × Int × List Int × Nat) → Prop
  | none => d = .non
  | some (k, x, n, told, z) => ∃ c, d = .tup [.int k, .int x, .int n, .cid c, .int ((q + z : Nat) : Int)] ∧ M[c]? = some (.lst (told.map D.int))
theorem PcT.py {s : Stt} {a : AI} {q : Nat} {d : D} {v : Option (Int × Int × Int × List Int × Nat)} (h : look s a = some d) (hT : PcT s.M q d v) : pyR s a = some (pcP q v) := by
  cases v with
  | none =>
    have hT : d = .non := hT
    subst hT
    show ((look s a).bind _).bind _ = _; rw [h]; rfl
  | some p =>
    obtain ⟨k, x, n, told, z⟩ := p
    obtain ⟨c, rfl, hc⟩ := hT
    have := pyR_tupI (s := s) (k := k) (x := x) (n := n) (w := ((q + z : Nat) : Int)) (d := .cid c) (told := told) (td_rsv (td_cell hc))
    show ((look s a).bind _).bind _ = _
    rw [h]; exact this
theorem piece_at_tf {row : List Int} (hb : ∀ b ∈ row, 0 ≤ b ∧ b ≤ 255) (hrl : row.length ≤ 90000) {q : Nat} (hq : q ≤ 100000) (N : List Cn) : Tf N.length (fun a M' => ∃ d, a = .val d ∧ PcT (N ++ M') q d (pcAt (row.drop q))) (fun _ _ => False) (m_piece_at [.lst (row.map D.int), .int (q : Int)] []) := by
  refine tf_fo (fo_use (piece_at_fo hb hrl hq []) ?_)
  intro a M' ha
  cases e : pcAt (row.drop q) with
  | none =>
    rw [e] at ha
    have ha : a = .val .non := ha
    subst ha
    exact ⟨_, rfl, rfl⟩
  | some v =>
    obtain ⟨k, x, n, told, z⟩ := v
    rw [e] at ha
    obtain ⟨d, rfl, c, rfl, hc⟩ := ha
    refine ⟨_, rfl, N.length + c, rfl, ?_⟩
    rw [List.getElem?_append_right (by omega), show N.length + c - N.length = c by omega, List.getElem?_map, hc]
    show some (shC N.length (.lst (told.map D.int))) = _
    have e : shC N.length (.lst (told.map D.int)) = .lst (told.map D.int) := by
      have : ∀ ns : List Int, shL N.length (ns.map D.int) = ns.map D.int := fun ns => by
        induction ns with
        | nil => rfl
        | cons i ns ih => show D.int i :: shL N.length (ns.map D.int) = _; rw [ih]; rfl
      show Cn.lst (shL N.length (told.map D.int)) = _
      rw [this]
    rw [e]
theorem fo_ex' {P : AI → List Cn → Prop} {r : Fr} (h : Fo P r) : ∃ a M', r = .ok a M' ∧ P a M' := by
  cases r with
  | ok a M' => exact ⟨a, M', rfl, h⟩
  | er x M' => exact h.elim
  | no => exact h.elim
theorem get5 {x y : Int} (hx : 0 ≤ x ∧ x < 256) (hy : 0 ≤ y ∧ y < 5) : ∃ v : Int, (0 ≤ v ∧ v ≤ 255) ∧ atI [D.int 165, D.int 90, D.int 0, D.int 1, D.int x] y = some (.int v) := by
  rcases (show y = 0 ∨ y = 1 ∨ y = 2 ∨ y = 3 ∨ y = 4 by omega) with e | e | e | e | e <;> subst e
  · exact ⟨165, by decide, rfl⟩
  · exact ⟨90, by decide, rfl⟩
  · exact ⟨0, by decide, rfl⟩
  · exact ⟨1, by decide, rfl⟩
  · exact ⟨x, by omega, rfl⟩
theorem get3 {y : Int} (hy : 0 ≤ y ∧ y < 3) : ∃ v : Int, (0 ≤ v ∧ v ≤ 255) ∧ atI [D.int 165, D.int 90, D.int 0] y = some (.int v) := by
  rcases (show y = 0 ∨ y = 1 ∨ y = 2 by omega) with e | e | e <;> subst e
  · exact ⟨165, by decide, rfl⟩
  · exact ⟨90, by decide, rfl⟩
  · exact ⟨0, by decide, rfl⟩
theorem lawT (ns : List Int) (hn : ns.length ≤ 63) : ∃ M', m_law [.clst (ns.map D.int)] [] = .ok (.val (.bl true)) M' := by
  refine (fun (h : Fo (fun a _ => a = .val (.bl true)) (m_law [.clst (ns.map D.int)] [])) => by
    obtain ⟨_, M', e, rfl⟩ := fo_ex' h
    exact ⟨M', e⟩) ?_
  walk_at "f0"; unfold b_law
  walk_at "w"
  rw [cutL_to _ (by decide), ← List.map_take]
  refine w_forN (fun i s => ∃ (e1 e2 e3 e4 e5 e6 e7 e8 e9 : Option Ent) (M : List Cn), s = ⟨[some (.fz (.clst (ns.map D.int))), e1, e2, e3, e4, e5, e6, e7, e8, e9], M⟩) ⟨_, _, _, _, _, _, _, _, _, _, rfl⟩ ?_ ?_
  · rintro i x s hi ⟨e1, e2, e3, e4, e5, e6, e7, e8, e9, M, rfl⟩
    obtain ⟨cell, _, rfl⟩ := map_get hi
    walk_at "w"
    refine fo_use (draw_ok cell M) ?_
    rintro _ M1 ⟨a, b, rfl, rfl⟩
    refine ⟨_, rfl, ?_⟩
    have hdr : Drw (M1 ++ [.lst [.int a, .int b]]) M1.length := ⟨a, b, app_at _ _ _⟩
    generalize M1 ++ [Cn.lst [.int a, .int b]] = M2 at *
    generalize M1.length = k at *
    walk_at "w"
    refine fo_use (next_ok hdr (z := 2) (by decide) (by decide)) ?_
    rintro _ M3 ⟨x1, rfl, x10, x11, k1⟩
    walk_at "w"
    refine w_forN (fun j s => ∃ (R : List Int) (e4 e5 : Option Ent) (M : List Cn), s = ⟨[some (.fz (.clst (ns.map D.int))), some (.fz (.int cell)), some (.fz (.cid k)), some (.ow (.lst (R.map D.int))), e4, e5, e6, e7, e8, e9], M⟩ ∧ By R ∧ R.length ≤ 1109 * j ∧ Drw M k) ⟨[], _, _, M3, rfl, (fun b hb => by cases hb), Nat.zero_le _, k1.dr⟩ ?_ ?_
    · rintro j y s hj ⟨R, e4, e5, M4, rfl, hR, hRl, hd⟩
      obtain ⟨hj, rfl⟩ := rng_get hj
      walk_at "w"
      refine fo_use (next_ok hd (z := 9) (by decide) (by decide)) ?_
      rintro _ M5 ⟨x2, rfl, x20, x21, k2⟩
      walk_at "w"
      refine w_forN (fun m s => ∃ (S : List Int) (e5 : Option Ent) (M : List Cn), s = ⟨[some (.fz (.clst (ns.map D.int))), some (.fz (.int cell)), some (.fz (.cid k)), some (.ow (.lst (S.map D.int))), some (.fz (.int (0 + (j : Int)))), e5, e6, e7, e8, e9], M⟩ ∧ By S ∧ S.length = R.length + m ∧ Drw M k) ⟨R, _, M5, rfl, hR, rfl, k2.dr⟩ ?_ ?_
      · rintro m y s hm ⟨S, e5, M6, rfl, hS, hSl, hd⟩
        obtain ⟨hm, rfl⟩ := rng_get hm
        walk_at "w"
        refine fo_use (next_ok hd (z := 256) (by decide) (by decide)) ?_
        rintro _ M7 ⟨u, rfl, u0, u1, k3⟩
        walk_at "w"
        refine fo_use (next_ok k3.dr (z := 5) (by decide) (by decide)) ?_
        rintro _ M8 ⟨v, rfl, v0, v1, k4⟩
        obtain ⟨w, hw, hw2⟩ := get5 (x := u) ⟨u0, u1⟩ ⟨v0, v1⟩
        walk_at "w"
        refine w_ixL (l := [D.int 165, D.int 90, D.int 0, D.int 1, D.int u]) rfl rfl rfl hw2 ?_
        walk_at "w"
        refine w_app rfl (by rw [List.length_map]; show _ < 16777216; omega) ?_
        walk_at "w"
        exact ⟨S ++ [w], _, M8, by rw [List.map_append] <;> rfl, hS.app (fun b hb => by rw [List.mem_singleton.mp hb]; exact hw), by rw [List.length_append]; show S.length + 1 = _; omega, k4.dr⟩
      · rintro s ⟨S, e5, M6, rfl, hS, hSl, hd⟩
        rw [rng_len] at hSl
        walk_at "w"
        refine fo_use (l_piece_ok hd) ?_
        rintro _ M7 ⟨k3, P, rfl, hP, hPl⟩
        walk_at "w"
        refine w_addL rfl rfl rfl (by rw [List.length_map, List.length_map]; show _ ≤ 16777216; omega) ?_
        rw [← List.map_append]
        walk_at "w"
        exact ⟨S ++ P, _, _, M7, rfl, hS.app hP, by rw [List.length_append]; omega, k3.dr⟩
    rintro s ⟨R, e4, e5, M4, rfl, hR, hRl, hd⟩
    rw [rng_len] at hRl
    walk_at "w"
    refine fo_use (next_ok hd (z := 5) (by decide) (by decide)) ?_
    rintro _ M5 ⟨x2, rfl, x20, x21, k2⟩
    walk_at "w"
    refine w_lcInv (fun j acc s => ∃ (E : List Int) (M : List Cn), s = ⟨[some (.fz (.clst (ns.map D.int))), some (.fz (.int cell)), some (.fz (.cid k)), some (.ow (.lst (R.map D.int))), none, e5, e6, e7, e8, e9], M⟩ ∧ acc = E.map D.int ∧ E.length = j ∧ By E ∧ Drw M k) ⟨[], M5, rfl, rfl, rfl, (fun b hb => by cases hb), k2.dr⟩ (by rw [rng_len]; show _ ≤ 16777216; omega) ?_ ?_
    · rintro j y acc s hj ⟨E, M6, rfl, rfl, hEl, hE, hd⟩
      obtain ⟨hj, rfl⟩ := rng_get hj
      walk_at "w"
      refine fo_use (next_ok hd (z := 3) (by decide) (by decide)) ?_
      rintro _ M8 ⟨v, rfl, v0, v1, k4⟩
      obtain ⟨w, hw, hw2⟩ := get3 ⟨v0, v1⟩
      walk_at "w"
      refine w_ixL (l := [D.int 165, D.int 90, D.int 0]) rfl rfl rfl hw2 ?_
      walk_at "w"
      exact ⟨E ++ [w], M8, rfl, by rw [List.map_append]; rfl, by rw [List.length_append, hEl]; rfl, hE.app (fun b hb => by rw [List.mem_singleton.mp hb]; exact hw), k4.dr⟩
    rintro _ _ ⟨E, M6, rfl, rfl, hEl, hE, hd⟩
    rw [rng_len] at hEl
    walk_at "ds"
    refine w_addL rfl rfl rfl (by rw [List.length_map, List.length_map]; show _ ≤ 16777216; omega) ?_
    rw [← List.map_append]
    have hRE := hR.app hE
    have hREl : (R ++ E).length ≤ 5000 := by rw [List.length_append]; omega
    generalize R ++ E = T at hRE hREl ⊢
    walk_at "w"
    rw [List.length_map]
    walk_at "w"
    refine w_forN (fun j s => ∃ (f3 f6 : Ent) (e4 e5 e7 e8 e9 : Option Ent) (M : List Cn), s = ⟨[some (.fz (.clst (ns.map D.int))), some (.fz (.int cell)), some (.fz (.cid k)), some f3, e4, e5, some f6, e7, e8, e9], M⟩ ∧ ((f3 = .ow (.lst (T.map D.int)) ∧ f6 = .ow (.lst (T.map D.int))) ∨ (f3 = .fz (.lst (T.map D.int)) ∧ f6 = .fz (.lst (T.map D.int))))) ⟨_, _, _, _, e7, e8, e9, M6, rfl, .inl ⟨rfl, rfl⟩⟩ ?_ ?_
    · rintro j y s hj ⟨f3, f6, e4, e5, e7, e8, e9, M7, rfl, hf⟩
      obtain ⟨hj, rfl⟩ := rng_get hj
      have hjl : j < T.length + 2 := by omega
      rw [show (0 : Int) + (j : Int) = (j : Int) by omega]
      rcases hf with ⟨rfl, rfl⟩ | ⟨rfl, rfl⟩
      all_goals
        walk_at "w"
        refine fo_use (l_due_ok hRE (by omega) (q := j) (by omega) M7) ?_
        rintro _ M10 ⟨rfl, rfl⟩
        walk_at "w"
        refine tf_use (piece_at_tf hRE (by omega) (q := j) (by omega) M10) ?_ (fun _ _ h => h)
        rintro _ M8 ⟨d, rfl, hT⟩
        generalize M10 ++ M8 = M9 at hT ⊢
        walk_at "wi"
        refine w_chk ?_ ?_
        · walk_at "w"
          refine w_neR (eqR_same (hT.py rfl) (pyR_pcD rfl) (lay_pc _ _) (by decide)) ?_
          walk_at "w"
          cases e : pcAt (T.drop j) with
          | none =>
            rw [e] at hT
            have hT : d = .non := hT
            subst hT
            walk_at "w"
            exact rfl
          | some v =>
            obtain ⟨kd, x, n, told, z⟩ := v
            rw [e] at hT
            obtain ⟨c, rfl, hc⟩ := hT
            walk_at "w"
            refine w_ixT (l := [.int kd, .int x, .int n, .cid c, .int ((j + z : Nat) : Int)]) (d := .cid c) rfl rfl rfl rfl rfl ?_
            walk_at "w"
            refine w_isi (b := true) (by exact rfl) (by show M9[c]?.bind _ = _; rw [hc]; rfl) (by decide +kernel) ?_
            walk_at "w"
            exact rfl
        cases e : pcAt (T.drop j) with
        | none =>
          rw [e] at hT
          have hT : d = .non := hT
          subst hT
          walk_at "w"
          exact ⟨_, _, _, _, _, _, _, _, rfl, .inr ⟨rfl, rfl⟩⟩
        | some v =>
          obtain ⟨kd, x, n, told, z⟩ := v
          have htl : told.length ≤ 255 := by
            obtain ⟨_, h2⟩ := pc_of (R := T.drop j) (fun b hb => hRE b (List.mem_of_mem_drop hb)) e
            obtain ⟨Y, hY, _⟩ := h2.bd
            exact hY.le
          rw [e] at hT
          obtain ⟨c, rfl, hc⟩ := hT
          walk_at "w"
          refine w_ixT (l := [.int kd, .int x, .int n, .cid c, .int ((j + z : Nat) : Int)]) (d := .cid c) rfl rfl rfl rfl rfl ?_
          refine ⟨_, viewL_cid hc, ?_⟩
          walk_at "w"
          refine w_app (l := told.map D.int) (getC_cid hc) (by rw [List.length_map]; show _ < 16777216; omega) ?_
          walk_at "ds"
          walk_at "w"
          generalize M9.set c _ = M11
          refine tf_use (piece_at_tf hRE (by omega) (q := j) (by omega) M11) ?_ (fun _ _ h => h)
          rintro _ M12 ⟨d2, rfl, hT2⟩
          rw [e] at hT2
          walk_at "w"
          refine w_neR (eqR_same (hT2.py rfl) (pyR_pcD rfl) (lay_pc _ _) (by decide)) ?_
          walk_at "w"
          exact ⟨_, _, _, _, _, _, _, _, rfl, .inr ⟨rfl, rfl⟩⟩
    · rintro s ⟨f3, f6, e4, e5, e7, e8, e9, M7, rfl, hf⟩
      rcases hf with ⟨rfl, rfl⟩ | ⟨rfl, rfl⟩
      all_goals
        walk_at "w"
        refine w_ne (_root_.Y.eqOf_ints (ns := T) (ms := T) rfl rfl (.inl rfl) (.inl rfl)) ?_
        rw [decide_eq_true rfl]
        walk_at "w"
        exact ⟨_, _, _, _, _, _, _, _, _, _, rfl⟩
  · rintro s ⟨e1, e2, e3, e4, e5, e6, e7, e8, e9, M, rfl⟩
    walk_at "w"
    refine tf_use (piece_at_tf (row := []) (fun b hb => by cases hb) (by decide) (q := 0) (by decide) M) ?_ (fun _ _ h => h)
    rintro _ M8 ⟨d, rfl, hT⟩
    have hT : d = .non := hT
    subst hT
    walk_at "w"
    exact rfl
theorem ok_law' {P : Program} {w : World} {K : PySem.W.Frag} {mg : Str → Option Value} {base : Heap} (hl : ∀ ns : List Int, ns.length ≤ 63 → ∃ M', m_law [.clst (ns.map D.int)] [] = .ok (.val (.bl true)) M') (T : Tx K mg) : FnOk P w K mg base CX0 10 T.a_law T.d_law ["_law_script"] (spLaw K) :=
  (ok_law T).imp (fun vs H Q E h => by
    obtain ⟨a, ns, rfl, hS, hn, _, q⟩ := h
    obtain ⟨M', e⟩ := hl ns hn
    refine ⟨⟨H, fun _ => 0, fun _ => none⟩, [], [.clst (ns.map D.int)], ⟨(fun _ _ e => by rw [show (ctT T).lk = none from rfl, U0]; exact e), (fun a l e => nomatch e), fun _ e => e, rfl, (fun i e q => by simp at q), (fun k c q => by simp at q)⟩, .cons (.clst hS (rpl_ints ns)) .nil, ?_⟩
    rw [e]
    intro S' v H' st rel it
    cases rp_bl it
    exact q H')
end K32
theorem PySem.Challenge.cw_tornshelf_k32_pieces_at_places_holds : PySem.Challenge.rw_tornshelf_k32_pieces_at_places.Holds :=
  K32.early fun T => K32.ok_law' K32.lawT T
